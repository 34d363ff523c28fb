import PyProof.Rows.All
import Wide.All
import OpenK.AllK
import Wide.FinOn
import HandS.ForMost
import HandS.ForExc
import HandS.TupAny
import HandS.Walk
import HandS.Defaults
import HandS.ExcCtx
import HandS.HotCalls
import HandS.ExcInit
import HandS.Deep
import HandS.IsInst
import HandS.Style
import HandS.SortInts
import HandS.TupMul
import PyProof.ReprRoads
import HandS.HeadEnd
import HandS.HeadHook2
import KE.KExcIs
import HandS.ExcField
import HandS.ExcInitHot
import HandS.Head2
import KE.SortData
import HandS.Zip
import HandS.Dict
import HandS.DictComp
import HandS.Strs
import KE.KTupSum
import HandS.Star
import KE.KCtx
import KE.GoesEnum
import KE.GoesMore
import KE.GoesZip
import HandS.Text
import PyProof.ListStr
import HandS.Conv
import PyProof.P3In
import HandS.Iter
import KE.DataFind
import PyProof.AutoSeq1
import KE.KStateDown
import HandS.Base
import HandS.Call
import HandS.Ends
import HandS.More
import HandS.Words
import HandS.WordsExc
import HandS.Head0
import HandS.Head1
import HandS.HeadHook1
import PySem.Challenge.RW_turnbehind_k02_sorted_or_repeated
set_option Elab.async false
set_option linter.all false
set_option maxRecDepth 100000
set_option maxHeartbeats 0
namespace Mir
open PySem PySem.Spec PyProof.Rows L2
inductive T where
  | non | bl (b : Bool) | int (i : Int) | str (s : Str) | tup (ts : List T) | lst (ts : List T) | own (ts : List T)
  | dct (kvs : List (Key × T)) | odc (kvs : List (Key × T))
  | rol (ts : List T)
  | yt (ts : List T)
  | otp (ts : List T)
mutual
def frz : T → T
  | .own ts => .lst (frzs ts)
  | .odc kvs => .dct kvs
  | .otp ts => .tup (frzs ts)
  | t => t
def frzs : List T → List T
  | [] => []
  | t :: ts => frz t :: frzs ts
end
mutual
def noOwn : T → Bool
  | .own _ => false
  | .odc _ => false
  | .otp _ => false
  | _ => true
def noLst : T → Bool
  | .lst _ => false
  | .rol _ => false
  | .yt _ => false
  | .dct _ => false
  | .tup ts => noLsts ts
  | .own ts => noLsts ts
  | .otp ts => noLsts ts
  | .odc kvs => noLstk kvs
  | _ => true
def noLsts : List T → Bool
  | [] => true
  | t :: ts => noLst t && noLsts ts
def noLstk : List (Key × T) → Bool
  | [] => true
  | p :: ps => noLst p.2 && noLstk ps
end
def SqX (K : PySem.W.Frag) (H : Hp) (a : Addr) (xs : List V) : Prop := (∃ o : Obj, o.cls = .type "tuple" ∧ o.dict = none ∧ H a = some (.frz o (.tup xs))) ∨
  ∃ (o : Obj) (its : Array Value) (n : Nat), K.lookup a = some o ∧ o.cls = .type "tuple" ∧ o.dict = none ∧ o.data = .seq its n ∧ its.size ≤ sizeLine ∧ Vals xs its.toList
theorem SqX.sq {K : PySem.W.Frag} {H : Hp} {a : Addr} {xs : List V} (h : SqX K H a xs) : SqT K H a xs := by
  rcases h with ⟨o, _, _, h⟩ | ⟨o, its, n, h1, h2, _, h3, h4, h5⟩
  · exact .inl (.inr ⟨o, h⟩)
  · exact .inr ⟨o, its, n, h1, h2, h3, h4, h5⟩
section
variable (K : PySem.W.Frag) (B H : Hp)
mutual
def VR : T → V → List Addr → Prop
  | .non, v, f => v = .non ∧ f = []
  | .bl b, v, f => v = .bl b ∧ f = []
  | .int i, v, f => v = .int i ∧ f = []
  | .str s, v, f => v = .str s ∧ f = []
  | .tup ts, v, f => f = [] ∧ ∃ a vs, v = .ref a ∧ SqX K B a vs ∧ VRs ts vs []
  | .yt ts, v, f => f = [] ∧ ∃ a vs, v = .ref a ∧ SqT K B a vs ∧ VRs ts vs []
  | .otp ts, v, f => f ≠ [] ∧ ∃ a vs, v = .ref a ∧ SqX K B a vs ∧ VRs ts vs f
  | .lst ts, v, f => f = [] ∧ ∃ a vs, v = .ref a ∧ B a = some (.lst vs) ∧ VRs ts vs []
  | .rol ts, v, f => f = [] ∧ ∃ a vs, v = .ref a ∧ SqL K B a vs ∧ VRs ts vs []
  | .own ts, v, f => ∃ a vs g, v = .ref a ∧ f = a :: g ∧ H a = some (.lst vs) ∧ VRs ts vs g
  | .dct kvs, v, f => f = [] ∧ ∃ a ws, v = .ref a ∧ Rd B a (.dK ws) ∧ VRk kvs ws
  | .odc kvs, v, f => ∃ a ws, v = .ref a ∧ f = [a] ∧ H a = some (.dK ws) ∧ VRk kvs ws
def VRs : List T → List V → List Addr → Prop
  | [], vs, f => vs = [] ∧ f = []
  | t :: ts, vs, f => ∃ v r f1 f2, vs = v :: r ∧ f = f1 ++ f2 ∧ VR t v f1 ∧ VRs ts r f2
def VRk : List (Key × T) → List (Key × V) → Prop
  | [], ws => ws = []
  | p :: ps, ws => ∃ v r, ws = (p.1, v) :: r ∧ VR p.2 v [] ∧ VRk ps r
end
end
section
variable {K : PySem.W.Frag} {B B' H H' : Hp}
theorem VRs.length : ∀ {ts : List T} {vs : List V} {f : List Addr}, VRs K B H ts vs f → vs.length = ts.length
  | [], vs, f, h => by
    obtain ⟨rfl, _⟩ := h
    rfl
  | t :: ts, vs, f, h => by
    obtain ⟨v, r, f1, f2, rfl, _, _, h2⟩ := h
    show r.length + 1 = ts.length + 1
    rw [VRs.length h2]
theorem same_sqX (e : Same B B') {a : Addr} {xs : List V} (h : SqX K B a xs) : SqX K B' a xs := by
  rcases h with ⟨o, h1, h2, h⟩ | h
  · exact .inl ⟨o, h1, h2, e _ _ h⟩
  · exact .inr h
theorem same_sqT (e : Same B B') {a : Addr} {xs : List V} (h : SqX K B a xs) : SqT K B' a xs := (same_sqX e h).sq
theorem same_sq0 (e : Same B B') {a : Addr} {xs : List V} (h : SqT K B a xs) : SqT K B' a xs := by
  rcases h with (h | ⟨o, h⟩) | h
  · exact .inl (.inl (e _ _ h))
  · exact .inl (.inr ⟨o, e _ _ h⟩)
  · exact .inr h
theorem same_rd (e : Same B B') {a : Addr} {u : HO} (h : Rd B a u) : Rd B' a u := by
  rcases h with h | ⟨o, h⟩
  · exact .inl (e _ _ h)
  · exact .inr ⟨o, e _ _ h⟩
mutual
theorem VR.mono (e : Same B B') : ∀ {t : T} {v : V} {f : List Addr}, VR K B H t v f → (∀ a ∈ f, ∀ o, H a = some o → H' a = some o) → VR K B' H' t v f
  | .non, _, _, h, _ => by unfold VR at h ⊢; exact h
  | .bl _, _, _, h, _ => by unfold VR at h ⊢; exact h
  | .int _, _, _, h, _ => by unfold VR at h ⊢; exact h
  | .str _, _, _, h, _ => by unfold VR at h ⊢; exact h
  | .tup ts, v, f, h, k => by
    unfold VR at h ⊢
    obtain ⟨rfl, a, vs, rfl, q, r⟩ := h
    exact ⟨rfl, a, vs, rfl, same_sqX e q, VRs.mono e r (fun _ hz => nomatch hz)⟩
  | .yt ts, v, f, h, k => by
    unfold VR at h ⊢
    obtain ⟨rfl, a, vs, rfl, q, r⟩ := h
    exact ⟨rfl, a, vs, rfl, same_sq0 e q, VRs.mono e r (fun _ hz => nomatch hz)⟩
  | .otp ts, v, f, h, k => by
    unfold VR at h ⊢
    obtain ⟨nf, a, vs, rfl, q, r⟩ := h
    exact ⟨nf, a, vs, rfl, same_sqX e q, VRs.mono e r k⟩
  | .lst ts, v, f, h, k => by
    unfold VR at h ⊢
    obtain ⟨rfl, a, vs, rfl, q, r⟩ := h
    exact ⟨rfl, a, vs, rfl, e _ _ q, VRs.mono e r (fun _ hz => nomatch hz)⟩
  | .rol ts, v, f, h, k => by
    unfold VR at h ⊢
    obtain ⟨rfl, a, vs, rfl, q, r⟩ := h
    exact ⟨rfl, a, vs, rfl, e.seq q, VRs.mono e r (fun _ hz => nomatch hz)⟩
  | .own ts, v, f, h, k => by
    unfold VR at h ⊢
    obtain ⟨a, vs, g, rfl, rfl, q, r⟩ := h
    exact ⟨a, vs, g, rfl, rfl, k a (List.mem_cons_self ..) _ q, VRs.mono e r (fun b hb => k b (List.mem_cons_of_mem _ hb))⟩
  | .dct kvs, v, f, h, k => by
    unfold VR at h ⊢
    obtain ⟨rfl, a, vs, rfl, q, r⟩ := h
    exact ⟨rfl, a, vs, rfl, same_rd e q, VRk.mono e r⟩
  | .odc kvs, v, f, h, k => by
    unfold VR at h ⊢
    obtain ⟨a, vs, rfl, rfl, q, r⟩ := h
    exact ⟨a, vs, rfl, rfl, k a (List.mem_cons_self ..) _ q, VRk.mono e r⟩
theorem VRs.mono (e : Same B B') : ∀ {ts : List T} {vs : List V} {f : List Addr}, VRs K B H ts vs f → (∀ a ∈ f, ∀ o, H a = some o → H' a = some o) → VRs K B' H' ts vs f
  | [], _, _, h, _ => by unfold VRs at h ⊢; exact h
  | t :: ts, vs, f, h, k => by
    unfold VRs at h ⊢
    obtain ⟨v, r, f1, f2, rfl, rfl, h1, h2⟩ := h
    exact ⟨v, r, f1, f2, rfl, rfl, VR.mono e h1 (fun a ha => k a (List.mem_append_left _ ha)), VRs.mono e h2 (fun a ha => k a (List.mem_append_right _ ha))⟩
theorem VRk.mono (e : Same B B') : ∀ {ts : List (Key × T)} {ws : List (Key × V)}, VRk K B H ts ws → VRk K B' H' ts ws
  | [], _, h => by unfold VRk at h ⊢; exact h
  | p :: ps, ws, h => by
    unfold VRk at h ⊢
    obtain ⟨v, r, rfl, h1, h2⟩ := h
    exact ⟨v, r, rfl, VR.mono e h1 (fun _ hz => nomatch hz), VRk.mono e h2⟩
end
mutual
theorem VR.frz (e : Same B B') : ∀ {t : T} {v : V} {f : List Addr}, VR K B H t v f → (∀ a ∈ f, ∀ o, H a = some o → B' a = some o) → VR K B' H' (Mir.frz t) v []
  | .non, _, _, h, _ => by unfold VR at h; obtain ⟨rfl, rfl⟩ := h; simp [Mir.frz, VR]
  | .bl _, _, _, h, _ => by unfold VR at h; obtain ⟨rfl, rfl⟩ := h; simp [Mir.frz, VR]
  | .int _, _, _, h, _ => by unfold VR at h; obtain ⟨rfl, rfl⟩ := h; simp [Mir.frz, VR]
  | .str _, _, _, h, _ => by unfold VR at h; obtain ⟨rfl, rfl⟩ := h; simp [Mir.frz, VR]
  | .tup ts, v, f, h, k => by
    have hf : f = [] := by unfold VR at h; exact h.1
    subst hf
    have q := VR.mono (B' := B') (H' := H') e h (fun _ hz => nomatch hz)
    simpa only [Mir.frz] using q
  | .lst ts, v, f, h, k => by
    have hf : f = [] := by unfold VR at h; exact h.1
    subst hf
    have q := VR.mono (B' := B') (H' := H') e h (fun _ hz => nomatch hz)
    simpa only [Mir.frz] using q
  | .rol ts, v, f, h, k => by
    have hf : f = [] := by unfold VR at h; exact h.1
    subst hf
    have q := VR.mono (B' := B') (H' := H') e h (fun _ hz => nomatch hz)
    simpa only [Mir.frz] using q
  | .yt ts, v, f, h, k => by
    have hf : f = [] := by unfold VR at h; exact h.1
    subst hf
    have q := VR.mono (B' := B') (H' := H') e h (fun _ hz => nomatch hz)
    simpa only [Mir.frz] using q
  | .dct ts, v, f, h, k => by
    have hf : f = [] := by unfold VR at h; exact h.1
    subst hf
    have q := VR.mono (B' := B') (H' := H') e h (fun _ hz => nomatch hz)
    simpa only [Mir.frz] using q
  | .otp ts, v, f, h, k => by
    unfold VR at h
    obtain ⟨_, a, vs, rfl, q, r⟩ := h
    unfold Mir.frz VR
    exact ⟨rfl, a, vs, rfl, same_sqX e q, VRs.frz e r k⟩
  | .own ts, v, f, h, k => by
    unfold VR at h
    obtain ⟨a, vs, g, rfl, rfl, q, r⟩ := h
    unfold Mir.frz VR
    exact ⟨rfl, a, vs, rfl, k a (List.mem_cons_self ..) _ q, VRs.frz e r (fun b hb => k b (List.mem_cons_of_mem _ hb))⟩
  | .odc kvs, v, f, h, k => by
    unfold VR at h
    obtain ⟨a, ws, rfl, rfl, q, r⟩ := h
    unfold Mir.frz VR
    exact ⟨rfl, a, ws, rfl, .inl (k a (List.mem_cons_self ..) _ q), VRk.mono e r⟩
theorem VRs.frz (e : Same B B') : ∀ {ts : List T} {vs : List V} {f : List Addr}, VRs K B H ts vs f → (∀ a ∈ f, ∀ o, H a = some o → B' a = some o) → VRs K B' H' (Mir.frzs ts) vs []
  | [], _, _, h, _ => by unfold VRs at h; unfold Mir.frzs VRs; exact ⟨h.1, rfl⟩
  | t :: ts, vs, f, h, k => by
    unfold VRs at h
    obtain ⟨v, r, f1, f2, rfl, rfl, h1, h2⟩ := h
    unfold Mir.frzs VRs
    exact ⟨v, r, [], [], rfl, rfl, VR.frz e h1 (fun a ha => k a (List.mem_append_left _ ha)), VRs.frz e h2 (fun a ha => k a (List.mem_append_right _ ha))⟩
end
mutual
theorem VR.loose (e : ∀ a xs, SqX K B a xs → SqX K B' a xs) : ∀ {t : T} {v : V} {f : List Addr}, VR K B H t v f → noLst t = true → VR K B' H t v f
  | .non, _, _, h, _ => by unfold VR at h ⊢; exact h
  | .bl _, _, _, h, _ => by unfold VR at h ⊢; exact h
  | .int _, _, _, h, _ => by unfold VR at h ⊢; exact h
  | .str _, _, _, h, _ => by unfold VR at h ⊢; exact h
  | .tup ts, v, f, h, k => by
    unfold VR at h ⊢
    unfold noLst at k
    obtain ⟨rfl, a, vs, rfl, q, r⟩ := h
    exact ⟨rfl, a, vs, rfl, e _ _ q, VRs.loose e r k⟩
  | .lst ts, v, f, h, k => by unfold noLst at k; cases k
  | .rol ts, v, f, h, k => by unfold noLst at k; cases k
  | .yt ts, v, f, h, k => by unfold noLst at k; cases k
  | .otp ts, v, f, h, k => by
    unfold VR at h ⊢
    unfold noLst at k
    obtain ⟨nf, a, vs, rfl, q, r⟩ := h
    exact ⟨nf, a, vs, rfl, e _ _ q, VRs.loose e r k⟩
  | .dct ts, v, f, h, k => by unfold noLst at k; cases k
  | .own ts, v, f, h, k => by
    unfold VR at h ⊢
    unfold noLst at k
    obtain ⟨a, vs, g, rfl, rfl, q, r⟩ := h
    exact ⟨a, vs, g, rfl, rfl, q, VRs.loose e r k⟩
  | .odc kvs, v, f, h, k => by
    unfold VR at h ⊢
    unfold noLst at k
    obtain ⟨a, vs, rfl, rfl, q, r⟩ := h
    exact ⟨a, vs, rfl, rfl, q, VRk.loose e r k⟩
theorem VRs.loose (e : ∀ a xs, SqX K B a xs → SqX K B' a xs) : ∀ {ts : List T} {vs : List V} {f : List Addr}, VRs K B H ts vs f → noLsts ts = true → VRs K B' H ts vs f
  | [], _, _, h, _ => by unfold VRs at h ⊢; exact h
  | t :: ts, vs, f, h, k => by
    unfold VRs at h ⊢
    unfold noLsts at k
    obtain ⟨k1, k2⟩ := Bool.and_eq_true_iff.mp k
    obtain ⟨v, r, f1, f2, rfl, rfl, h1, h2⟩ := h
    exact ⟨v, r, f1, f2, rfl, rfl, VR.loose e h1 k1, VRs.loose e h2 k2⟩
theorem VRk.loose (e : ∀ a xs, SqX K B a xs → SqX K B' a xs) : ∀ {ts : List (Key × T)} {ws : List (Key × V)}, VRk K B H ts ws → noLstk ts = true → VRk K B' H ts ws
  | [], _, h, _ => by unfold VRk at h ⊢; exact h
  | p :: ps, ws, h, k => by
    unfold VRk at h ⊢
    unfold noLstk at k
    obtain ⟨k1, k2⟩ := Bool.and_eq_true_iff.mp k
    obtain ⟨v, r, rfl, h1, h2⟩ := h
    exact ⟨v, r, rfl, VR.loose e h1 k1, VRk.loose e h2 k2⟩
end
def MutO (o : HO) : Prop := (∃ xs, o = .lst xs) ∨ ∃ ws, o = .dK ws
mutual
theorem VR.cells : ∀ {t : T} {v : V} {f : List Addr}, VR K B H t v f → ∀ a ∈ f, ∃ o, H a = some o ∧ MutO o
  | .non, _, _, h, a, ha => by unfold VR at h; rw [h.2] at ha; cases ha
  | .bl _, _, _, h, a, ha => by unfold VR at h; rw [h.2] at ha; cases ha
  | .int _, _, _, h, a, ha => by unfold VR at h; rw [h.2] at ha; cases ha
  | .str _, _, _, h, a, ha => by unfold VR at h; rw [h.2] at ha; cases ha
  | .tup ts, v, f, h, a, ha => by unfold VR at h; rw [h.1] at ha; cases ha
  | .lst ts, v, f, h, a, ha => by unfold VR at h; rw [h.1] at ha; cases ha
  | .rol ts, v, f, h, a, ha => by unfold VR at h; rw [h.1] at ha; cases ha
  | .yt ts, v, f, h, a, ha => by unfold VR at h; rw [h.1] at ha; cases ha
  | .otp ts, v, f, h, b, hb => by
    unfold VR at h
    obtain ⟨_, a, vs, rfl, q, r⟩ := h
    exact VRs.cells r b hb
  | .dct ts, v, f, h, a, ha => by unfold VR at h; rw [h.1] at ha; cases ha
  | .own ts, v, f, h, b, hb => by
    unfold VR at h
    obtain ⟨a, vs, g, rfl, rfl, q, r⟩ := h
    rcases List.mem_cons.mp hb with rfl | hb
    · exact ⟨_, q, .inl ⟨_, rfl⟩⟩
    · exact VRs.cells r b hb
  | .odc kvs, v, f, h, b, hb => by
    unfold VR at h
    obtain ⟨a, vs, rfl, rfl, q, r⟩ := h
    rcases List.mem_cons.mp hb with rfl | hb
    · exact ⟨_, q, .inr ⟨_, rfl⟩⟩
    · cases hb
theorem VRs.cells : ∀ {ts : List T} {vs : List V} {f : List Addr}, VRs K B H ts vs f → ∀ a ∈ f, ∃ o, H a = some o ∧ MutO o
  | [], _, _, h, a, ha => by unfold VRs at h; rw [h.2] at ha; cases ha
  | t :: ts, vs, f, h, b, hb => by
    unfold VRs at h
    obtain ⟨v, r, f1, f2, rfl, rfl, h1, h2⟩ := h
    rcases List.mem_append.mp hb with hb | hb
    · exact VR.cells h1 b hb
    · exact VRs.cells h2 b hb
end
theorem VR.noOwn : ∀ {t : T} {v : V} {f : List Addr}, VR K B H t v f → Mir.noOwn t = true → f = []
  | .non, _, _, h, _ => by unfold VR at h; exact h.2
  | .bl _, _, _, h, _ => by unfold VR at h; exact h.2
  | .int _, _, _, h, _ => by unfold VR at h; exact h.2
  | .str _, _, _, h, _ => by unfold VR at h; exact h.2
  | .tup ts, v, f, h, k => by unfold VR at h; exact h.1
  | .lst ts, v, f, h, k => by unfold VR at h; exact h.1
  | .rol ts, v, f, h, k => by unfold VR at h; exact h.1
  | .yt ts, v, f, h, k => by unfold VR at h; exact h.1
  | .dct ts, v, f, h, k => by unfold VR at h; exact h.1
  | .own ts, v, f, h, k => by simp [Mir.noOwn] at k
  | .odc ts, v, f, h, k => by simp [Mir.noOwn] at k
  | .otp ts, v, f, h, k => by simp [Mir.noOwn] at k
theorem VR.frz_id : ∀ {t : T}, Mir.noOwn t = true → Mir.frz t = t
  | .non, _ => rfl
  | .bl _, _ => rfl
  | .int _, _ => rfl
  | .str _, _ => rfl
  | .tup _, _ => rfl
  | .lst _, _ => rfl
  | .rol _, _ => rfl
  | .yt _, _ => rfl
  | .dct _, _ => rfl
  | .own ts, k => by simp [Mir.noOwn] at k
  | .odc ts, k => by simp [Mir.noOwn] at k
  | .otp ts, k => by simp [Mir.noOwn] at k
end
end Mir
namespace Mir
open PySem PySem.Spec L2
abbrev Env := List (Option T)
structure Exc where
  cls : Str
  fields : List (Str × T)
inductive R (α : Type) where
  | ok (a : α) (e : Env) | ex (x : Exc) (e : Env) | no
def R.bind {α β : Type} (r : R α) (f : α → Env → R β) : R β := match r with
  | .ok a e => f a e
  | .ex x e => .ex x e
  | .no => .no
abbrev E := Env → R T
abbrev A := Env → R (List T)
abbrev C := Env → R Bool
def optR {α : Type} (o : Option α) (e : Env) : R α := match o with
  | some t => .ok t e
  | none => .no
def SlotR (K : PySem.W.Frag) (B H : Hp) (t : Option T) (s : Option V) (f : List Addr) : Prop := match t with
  | some t => ∃ v, s = some v ∧ VR K B H t v f
  | none => f = []
abbrev Fp := Nat → List Addr
def FldR (K : PySem.W.Frag) (B H : Hp) : List (Str × T) → List (Str × V) → Prop
  | [], fs => fs = []
  | p :: ps, fs => ∃ v r, fs = (p.1, v) :: r ∧ VR K B H p.2 v [] ∧ FldR K B H ps r
structure Zx where
  i : Nat
  a : Addr
  cls : Value
  d : Option Addr
  x : Exc
structure WZ where
  w : WX
  z : Option Zx
def freeZ (Z : Option Zx) (j : Nat) : Bool := match Z with
  | none => true
  | some z => z.i != j
def ExB (K : PySem.W.Frag) (B : Hp) (x : Exc) (d : Option Addr) : Prop := (x.fields = [] ∧ d = none) ∨ ∃ dd fs, d = some dd ∧ B dd = some (.xd fs) ∧ FldR K B B x.fields fs
def ExAt (Z : Option Zx) (K : PySem.W.Frag) (B : Hp) (env : Env) (σ : St) : Prop := match Z with
  | none => True
  | some z => env[z.i]?.join = none ∧ σ[z.i]?.join = some (.ref z.a) ∧ ExB K B z.x z.d
structure Rel (Z : Option Zx) (K : PySem.W.Frag) (B H : Hp) (env : Env) (σ : St) (fp : Fp) : Prop where
  xc : ExAt Z K B env σ
  sub : Same B H
  len : env.length = σ.length
  at_ : ∀ i, SlotR K B H (env[i]?.join) (σ[i]?.join) (fp i)
  nd : ∀ i, (fp i).Nodup
  dj : ∀ i j, i ≠ j → ∀ a ∈ fp i, a ∉ fp j
  off : ∀ i, ∀ a ∈ fp i, B a = none
structure Fr (ms : List Nat) (B H : Hp) (fp : Fp) (B' H' : Hp) (fp' : Fp) : Prop where
  b : Same B B'
  keep : ∀ a o, H a = some o → (∀ i ∈ ms, a ∉ fp i) → H' a = some o
  grow : ∀ a, H' a = none → H a = none
  fresh : ∀ a, B' a ≠ none → B a ≠ none ∨ H a = none ∨ ∃ i ∈ ms, a ∈ fp i
  fps : ∀ j, j ∉ ms → fp' j = fp j
  fpm : ∀ j, ∀ a ∈ fp' j, a ∈ fp j ∨ H a = none
structure Alo (B H B' H' : Hp) : Prop where
  b : Same B B'
  h : Same H H'
  fresh : ∀ a, B' a ≠ none → B a ≠ none ∨ H a = none
  sub : Same B' H'
structure Got (K : PySem.W.Frag) (B H : Hp) (fp : Fp) (H0 : Hp) (srcs : List Nat) (t : T) (v : V) (f : List Addr) : Prop where
  vr : VR K B H t v f
  nd : f.Nodup
  off : ∀ a ∈ f, B a = none
  new : ∀ a ∈ f, (H0 a = none ∧ ∀ j, a ∉ fp j) ∨ ∃ i ∈ srcs, a ∈ fp i
structure Gots (K : PySem.W.Frag) (B H : Hp) (fp : Fp) (H0 : Hp) (srcs : List Nat) (ts : List T) (vs : List V) (f : List Addr) : Prop where
  vr : VRs K B H ts vs f
  nd : srcs = [] → f.Nodup
  off : ∀ a ∈ f, B a = none
  new : ∀ a ∈ f, (H0 a = none ∧ ∀ j, a ∉ fp j) ∨ ∃ i ∈ srcs, a ∈ fp i
theorem FldR.mono {K : PySem.W.Frag} {B B' H H' : Hp} (e : Same B B') : ∀ {ps : List (Str × T)} {fs : List (Str × V)}, FldR K B H ps fs → FldR K B' H' ps fs
  | [], _, h => h
  | p :: ps, fs, h => by
    obtain ⟨v, r, rfl, h1, h2⟩ := h
    exact ⟨v, r, rfl, h1.mono e (fun _ z => nomatch z), FldR.mono e h2⟩
theorem ExB.mono {K : PySem.W.Frag} {B B' : Hp} (e : Same B B') {x : Exc} {d : Option Addr} (h : ExB K B x d) : ExB K B' x d := by
  rcases h with h | ⟨dd, fs, rfl, h1, h2⟩
  · exact .inl h
  · exact .inr ⟨dd, fs, rfl, e _ _ h1, h2.mono e⟩
theorem ExAt.mono {Z : Option Zx} {K : PySem.W.Frag} {B B' : Hp} {env env' : Env} {σ σ' : St} (h : ExAt Z K B env σ) (e : Same B B') (he : ∀ z, Z = some z → env[z.i]?.join = none → env'[z.i]?.join = none) (hs : ∀ z, Z = some z → env[z.i]?.join = none → σ[z.i]?.join = some (.ref z.a) → σ'[z.i]?.join = some (.ref z.a)) : ExAt Z K B' env' σ' := by
  cases Z with
  | none => trivial
  | some z =>
    obtain ⟨h1, h2, h3⟩ := h
    exact ⟨he z rfl h1, hs z rfl h1 h2, h3.mono e⟩
theorem ExAt.same {Z : Option Zx} {K : PySem.W.Frag} {B B' : Hp} {env : Env} {σ : St} (h : ExAt Z K B env σ) (e : Same B B') : ExAt Z K B' env σ := h.mono e (fun _ _ q => q) fun _ _ _ q => q
theorem ExAt.ne {Z : Option Zx} {K : PySem.W.Frag} {B : Hp} {env : Env} {σ : St} {i : Nat} {t : T} (h : ExAt Z K B env σ) (e : env[i]?.join = some t) : freeZ Z i = true := by
  cases Z with
  | none => rfl
  | some z =>
    show (z.i != i) = true
    refine bne_iff_ne.mpr fun q => ?_
    have h1 := h.1
    rw [q, e] at h1
    cases h1
theorem freeZ_ne {z : Zx} {i : Nat} (h : freeZ (some z) i = true) : z.i ≠ i := bne_iff_ne.mp h
theorem set_join_ne {α : Type} {l : List (Option α)} {i j : Nat} {x : Option α} (h : j ≠ i) : (l.set i x)[j]?.join = l[j]?.join := by rw [List.getElem?_set_ne (Ne.symm h)]
theorem ExAt.set {Z : Option Zx} {K : PySem.W.Frag} {B : Hp} {env : Env} {σ : St} {i : Nat} {t : Option T} (h : ExAt Z K B env σ) (n : freeZ Z i = true) : ExAt Z K B (env.set i t) σ := by
  cases Z with
  | none => trivial
  | some z => exact ⟨by rw [set_join_ne (freeZ_ne n)]; exact h.1, h.2⟩
theorem ExAt.set2 {Z : Option Zx} {K : PySem.W.Frag} {B : Hp} {env : Env} {σ : St} {i : Nat} {t : Option T} {v : Option V} (h : ExAt Z K B env σ) (n : freeZ Z i = true) : ExAt Z K B (env.set i t) (σ.set i v) := by
  cases Z with
  | none => trivial
  | some z => exact ⟨by rw [set_join_ne (freeZ_ne n)]; exact h.1, by rw [set_join_ne (freeZ_ne n)]; exact h.2.1, h.2.2⟩
structure ExR (K : PySem.W.Frag) (mg : Str → Option Value) (B : Hp) (x : Exc) (cls : Value) (d : Option Addr) : Prop where
  cl : mg x.cls = some cls
  fl : ExB K B x d
section
variable {Z : Option Zx} {K : PySem.W.Frag} {B B' B1 H H' H1 : Hp} {env : Env} {σ : St} {fp fp' fp1 : Fp} {ms ms' srcs : List Nat}
theorem Fr.refl : Fr ms B H fp B H fp := ⟨Same.refl B, fun _ _ h _ => h, fun _ h => h, fun _ h => .inl h, fun _ _ => rfl, fun _ _ h => .inl h⟩
theorem Fr.trans {ms1 ms2 : List Nat} (a : Fr ms1 B H fp B1 H1 fp1) (b : Fr ms2 B1 H1 fp1 B' H' fp') : Fr (ms1 ++ ms2) B H fp B' H' fp' where
  b := a.b.trans b.b
  keep := fun c o h n => by
    have h1 := a.keep c o h (fun i hi => n i (List.mem_append_left _ hi))
    refine b.keep c o h1 fun i hi hc => ?_
    rcases a.fpm i c hc with q | q
    · exact n i (List.mem_append_right _ hi) q
    · rw [h] at q; cases q
  grow := fun c h => a.grow c (b.grow c h)
  fresh := fun c h => by
    rcases b.fresh c h with q | q | ⟨i, hi, q⟩
    · rcases a.fresh c q with r | r | ⟨j, hj, r⟩
      · exact .inl r
      · exact .inr (.inl r)
      · exact .inr (.inr ⟨j, List.mem_append_left _ hj, r⟩)
    · exact .inr (.inl (a.grow c q))
    · rcases a.fpm i c q with r | r
      · exact .inr (.inr ⟨i, List.mem_append_right _ hi, r⟩)
      · exact .inr (.inl r)
  fps := fun j hj => by
    rw [b.fps j (fun z => hj (List.mem_append_right _ z)), a.fps j (fun z => hj (List.mem_append_left _ z))]
  fpm := fun j c hc => by
    rcases b.fpm j c hc with q | q
    · exact a.fpm j c q
    · exact .inr (a.grow c q)
theorem Fr.weak (a : Fr ms B H fp B' H' fp') (h : ∀ i ∈ ms, i ∈ ms') : Fr ms' B H fp B' H' fp' where
  b := a.b
  keep := fun c o e n => a.keep c o e fun i hi => n i (h i hi)
  grow := a.grow
  fresh := fun c e => by
    rcases a.fresh c e with q | q | ⟨i, hi, q⟩
    · exact .inl q
    · exact .inr (.inl q)
    · exact .inr (.inr ⟨i, h i hi, q⟩)
  fps := fun j hj => a.fps j fun z => hj (h j z)
  fpm := a.fpm
theorem Alo.refl (s : Same B H) : Alo B H B H := ⟨Same.refl _, Same.refl _, fun _ h => .inl h, s⟩
theorem Rel.cell (r : Rel Z K B H env σ fp) {i : Nat} {a : Addr} (ha : a ∈ fp i) : ∃ o, H a = some o ∧ MutO o := by
  have h := r.at_ i
  cases e : env[i]?.join with
  | none =>
    rw [e] at h
    have h : fp i = [] := h
    rw [h] at ha
    cases ha
  | some t =>
    rw [e] at h
    obtain ⟨v, _, q⟩ := h
    exact q.cells a ha
theorem SlotR.mono (e : Same B B') {t : Option T} {s : Option V} {f : List Addr} (h : SlotR K B H t s f) (k : ∀ a ∈ f, ∀ o, H a = some o → H' a = some o) : SlotR K B' H' t s f := by
  cases t with
  | none => exact h
  | some t =>
    obtain ⟨v, q, r⟩ := h
    exact ⟨v, q, r.mono e k⟩
theorem Rel.alo (r : Rel Z K B H env σ fp) (a : Alo B H B' H') : Rel Z K B' H' env σ fp where
  xc := r.xc.same a.b
  sub := a.sub
  len := r.len
  at_ := fun i => (r.at_ i).mono a.b fun _ _ o h => a.h _ o h
  nd := r.nd
  dj := r.dj
  off := fun i c hc => by
    cases q : B' c with
    | none => rfl
    | some o =>
      rcases a.fresh c (by rw [q]; exact fun z => nomatch z) with h | h
      · exact absurd (r.off i c hc) h
      · obtain ⟨u, hu, _⟩ := r.cell hc
        rw [hu] at h
        cases h
theorem Alo.fr (a : Alo B H B' H') : Fr ms B H fp B' H' fp where
  b := a.b
  keep := fun c o h _ => a.h c o h
  grow := fun c h => by
    cases q : H c with
    | none => rfl
    | some o =>
      rw [a.h c o q] at h
      cases h
  fresh := fun c h => by
    rcases a.fresh c h with q | q
    · exact .inl q
    · exact .inr (.inl q)
  fps := fun _ _ => rfl
  fpm := fun _ _ h => .inl h
theorem Gots.keep {srcs ms : List Nat} {H0 : Hp} {ts : List T} {vs : List V} {f : List Addr} (g : Gots K B H fp H0 srcs ts vs f) (d : ∀ i ∈ srcs, i ∉ ms) (r : Rel Z K B H env σ fp) (a : Fr ms B H fp B' H' fp') : VRs K B' H' ts vs f := by
  refine g.vr.mono a.b fun c hc o h => a.keep c o h fun i hi q => ?_
  rcases g.new c hc with ⟨_, n⟩ | ⟨j, hj, n⟩
  · exact n i q
  · by_cases e : j = i
    · subst e
      exact d j hj hi
    · exact r.dj j i e c n q
theorem Got.keep {srcs ms : List Nat} {H0 : Hp} {t : T} {v : V} {f : List Addr} (g : Got K B H fp H0 srcs t v f) (d : ∀ i ∈ srcs, i ∉ ms) (r : Rel Z K B H env σ fp) (a : Fr ms B H fp B' H' fp') : VR K B' H' t v f := by
  refine g.vr.mono a.b fun c hc o h => a.keep c o h fun i hi q => ?_
  rcases g.new c hc with ⟨_, n⟩ | ⟨j, hj, n⟩
  · exact n i q
  · by_cases e : j = i
    · subst e
      exact d j hj hi
    · exact r.dj j i e c n q
theorem new_keep {srcs ms : List Nat} {H0 : Hp} {f : List Addr} (new : ∀ a ∈ f, (H0 a = none ∧ ∀ j, a ∉ fp j) ∨ ∃ i ∈ srcs, a ∈ fp i) (there : ∀ a ∈ f, ∃ o, H a = some o) (d : ∀ i ∈ srcs, i ∉ ms) (a : Fr ms B H fp B' H' fp') :
    ∀ a ∈ f, (H0 a = none ∧ ∀ j, a ∉ fp' j) ∨ ∃ i ∈ srcs, a ∈ fp' i := fun c hc => by
  obtain ⟨o, ho⟩ := there c hc
  rcases new c hc with ⟨n, m⟩ | ⟨j, hj, n⟩
  · refine .inl ⟨n, fun j hj => ?_⟩
    rcases a.fpm j c hj with q | q
    · exact m j q
    · rw [ho] at q; cases q
  · exact .inr ⟨j, hj, by rw [a.fps j (d j hj)]; exact n⟩
theorem off_keep {srcs ms : List Nat} {H0 : Hp} {f : List Addr} (off : ∀ a ∈ f, B a = none) (new : ∀ a ∈ f, (H0 a = none ∧ ∀ j, a ∉ fp j) ∨ ∃ i ∈ srcs, a ∈ fp i) (there : ∀ a ∈ f, ∃ o, H a = some o) (d : ∀ i ∈ srcs, i ∉ ms) (r : Rel Z K B H env σ fp) (a : Fr ms B H fp B' H' fp') :
    ∀ a ∈ f, B' a = none := fun c hc => by
  obtain ⟨o, ho⟩ := there c hc
  cases q : B' c with
  | none => rfl
  | some u =>
    rcases a.fresh c (by rw [q]; exact fun z => nomatch z) with h | h | ⟨i, hi, h⟩
    · exact absurd (off c hc) h
    · rw [ho] at h; cases h
    · rcases new c hc with ⟨_, n⟩ | ⟨j, hj, n⟩
      · exact absurd h (n i)
      · by_cases e : j = i
        · subst e
          exact absurd hi (d j hj)
        · exact absurd h (r.dj j i e c n)
theorem new_pre {srcs ms : List Nat} {f : List Addr} (new : ∀ a ∈ f, (H1 a = none ∧ ∀ j, a ∉ fp' j) ∨ ∃ i ∈ srcs, a ∈ fp' i) (a : Fr ms B H fp B1 H1 fp1) : ∀ a ∈ f, (H a = none ∧ ∀ j, a ∉ fp' j) ∨ ∃ i ∈ srcs, a ∈ fp' i := fun c hc => by
  rcases new c hc with ⟨n, m⟩ | q
  · exact .inl ⟨a.grow c n, m⟩
  · exact .inr q
theorem new_weak {srcs srcs' : List Nat} {H0 : Hp} {f : List Addr} (new : ∀ a ∈ f, (H0 a = none ∧ ∀ j, a ∉ fp j) ∨ ∃ i ∈ srcs, a ∈ fp i) (h : ∀ i ∈ srcs, i ∈ srcs') : ∀ a ∈ f, (H0 a = none ∧ ∀ j, a ∉ fp j) ∨ ∃ i ∈ srcs', a ∈ fp i := fun c hc => by
  rcases new c hc with q | ⟨i, hi, q⟩
  · exact .inl q
  · exact .inr ⟨i, h i hi, q⟩
theorem Got.there {H0 : Hp} {t : T} {v : V} {f : List Addr} (g : Got K B H fp H0 srcs t v f) : ∀ a ∈ f, ∃ o, H a = some o := fun a ha => let ⟨o, h, _⟩ := g.vr.cells a ha; ⟨o, h⟩
theorem Gots.there {H0 : Hp} {t : List T} {v : List V} {f : List Addr} (g : Gots K B H fp H0 srcs t v f) : ∀ a ∈ f, ∃ o, H a = some o := fun a ha => let ⟨o, h, _⟩ := VRs.cells g.vr a ha; ⟨o, h⟩
theorem Got.pure {H0 : Hp} {t : T} {v : V} (h : VR K B H t v []) : Got K B H fp H0 srcs t v [] := ⟨h, List.nodup_nil, fun _ z => (nomatch z), fun _ z => (nomatch z)⟩
end
section
variable (K : PySem.W.Frag) (mg : Str → Option Value) (W : WZ) (σ : St) (B H : Hp) (fp : Fp) (srcs ms : List Nat)
def PostE (r : R T) (Q : VK) : Prop := match r with
  | .ok t e => ∀ v B' H' fp' f, Rel W.z K B' H' e σ fp' → Fr ms B H fp B' H' fp' → Got K B' H' fp' H srcs t v f → Q v H'
  | .ex x e => ∀ cls d B' H' fp', Rel W.z K B' H' e σ fp' → Fr ms B H fp B' H' fp' → ExR K mg B' x cls d → W.w cls d σ H'
  | .no => False
def PostA (r : R (List T)) (Q : List V → Hp → Prop) : Prop := match r with
  | .ok t e => ∀ v B' H' fp' f, Rel W.z K B' H' e σ fp' → Fr ms B H fp B' H' fp' → Gots K B' H' fp' H srcs t v f → Q v H'
  | .ex x e => ∀ cls d B' H' fp', Rel W.z K B' H' e σ fp' → Fr ms B H fp B' H' fp' → ExR K mg B' x cls d → W.w cls d σ H'
  | .no => False
def PostC (r : R Bool) (Q : Bool → Hp → Prop) : Prop := match r with
  | .ok b e => ∀ B' H' fp', Rel W.z K B' H' e σ fp' → Fr ms B H fp B' H' fp' → Q b H'
  | .ex x e => ∀ cls d B' H' fp', Rel W.z K B' H' e σ fp' → Fr ms B H fp B' H' fp' → ExR K mg B' x cls d → W.w cls d σ H'
  | .no => False
end
def ME (X : Cx) (W : WZ) (e : Expr) (srcs ms : List Nat) (m : E) : Prop := ∃ t : TE, PE X e t ∧ ∀ B H env σ fp Q, Rel W.z X.K B H env σ fp → PostE X.K X.mg W σ B H fp srcs ms (m env) Q → t σ H Q
def MA (X : Cx) (W : WZ) (es : List Expr) (srcs ms : List Nat) (m : A) : Prop := ∃ t : TA, PA X es t ∧ ∀ B H env σ fp Q, Rel W.z X.K B H env σ fp → PostA X.K X.mg W σ B H fp srcs ms (m env) Q → t σ H Q
def MC (X : Cx) (W : WZ) (e : Expr) (ms : List Nat) (m : C) : Prop := ∃ t : TT, PT X e t ∧ ∀ B H env σ fp Q, Rel W.z X.K B H env σ fp → PostC X.K X.mg W σ B H fp ms (m env) Q → t σ H Q
def MW (X : Cx) (W : WZ) (e : Expr) (ms : List Nat) (m : C) : Prop := ∃ t : TT, PW X e t ∧ ∀ B H env σ fp Q, Rel W.z X.K B H env σ fp → PostC X.K X.mg W σ B H fp ms (m env) Q → t σ H Q
section
variable {X : Cx} {W : WZ}
def var (i : Nat) : E := fun e => match e[i]?.join with
  | some t => .ok t e
  | none => .no
def con (t : T) : E := fun e => .ok t e
def frzv (i : Nat) : E := fun e => match e[i]?.join with
  | some t => .ok (frz t) (e.set i (some (frz t)))
  | none => .no
theorem me_pv {i : Nat} {e : Expr} (h : PE X e (tVar i)) : ME X W e [i] [] (var i) := by
  refine ⟨_, h, fun B H env σ fp Q r p => ?_⟩
  unfold var at p
  have q := r.at_ i
  cases e1 : env[i]?.join with
  | none => rw [e1] at p; exact False.elim p
  | some t =>
    rw [e1] at p q
    obtain ⟨v, hv, vr⟩ := q
    refine ⟨v, ?_, p v B H fp (fp i) r .refl ⟨vr, r.nd i, r.off i, fun a ha => .inr ⟨i, List.mem_cons_self .., ha⟩⟩⟩
    cases z : σ[i]? with
    | none => rw [z] at hv; cases hv
    | some u => rw [z] at hv; exact congrArg some hv
def addB (B H : Hp) (f : List Addr) : Hp := fun a => if a ∈ f then H a else B a
theorem addB_in {B H : Hp} {f : List Addr} {a : Addr} (h : a ∈ f) : addB B H f a = H a := if_pos h
theorem addB_out {B H : Hp} {f : List Addr} {a : Addr} (h : a ∉ f) : addB B H f a = B a := if_neg h
theorem addB_same {B H : Hp} {f : List Addr} (off : ∀ a ∈ f, B a = none) : Same B (addB B H f) := fun a o h => by
  by_cases z : a ∈ f
  · rw [off a z] at h; cases h
  · rw [addB_out z]; exact h
theorem addB_sub {B H : Hp} {f : List Addr} (s : Same B H) : Same (addB B H f) H := fun a o h => by
  by_cases z : a ∈ f
  · rw [addB_in z] at h; exact h
  · rw [addB_out z] at h; exact s a o h
def fp0 (fp : Fp) (i : Nat) (f : List Addr) : Fp := fun j => if j = i then f else fp j
theorem fp0_at {fp : Fp} {i : Nat} {f : List Addr} : fp0 fp i f i = f := if_pos rfl
theorem fp0_ne {fp : Fp} {i j : Nat} {f : List Addr} (h : j ≠ i) : fp0 fp i f j = fp j := if_neg h
theorem join_set_at {α : Type} {l : List (Option α)} {i : Nat} {x : Option α} (h : i < l.length) : (l.set i x)[i]?.join = x := by
  rw [List.getElem?_set_self h]
  rfl
theorem join_set_ne {α : Type} {l : List (Option α)} {i j : Nat} {x : Option α} (h : j ≠ i) : (l.set i x)[j]?.join = l[j]?.join := by
  rw [List.getElem?_set_ne (Ne.symm h)]
theorem join_lt {α : Type} {l : List (Option α)} {i : Nat} {x : α} (h : l[i]?.join = some x) : i < l.length := by
  cases z : l[i]? with
  | none => rw [z] at h; cases h
  | some u => exact (List.getElem?_eq_some_iff.mp z).1
theorem me_con {e : Expr} {v : V} {t : T} (h : PE X e (tC v)) (hv : ∀ B H, VR X.K B H t v []) : ME X W e [] [] (con t) := ⟨_, h, fun B H env σ fp Q r p => p v B H fp [] r .refl (.pure (hv B H))⟩
theorem me_int {i j pos} : ME X W (.Constant (.int i) j pos) [] [] (con (.int i)) := me_con pe_int fun B H => by unfold VR; exact ⟨rfl, rfl⟩
theorem me_str {i j pos} : ME X W (.Constant (.str i) j pos) [] [] (con (.str i)) := me_con pe_str fun B H => by unfold VR; exact ⟨rfl, rfl⟩
theorem me_bl {i j pos} : ME X W (.Constant (.bool i) j pos) [] [] (con (.bl i)) := me_con pe_bl fun B H => by unfold VR; exact ⟨rfl, rfl⟩
theorem me_non {j pos} : ME X W (.Constant .none j pos) [] [] (con .non) := me_con pe_non fun B H => by unfold VR; exact ⟨rfl, rfl⟩
def settle (m : E) : E := fun e => match m e with
  | .ok t e1 => if noOwn t then .ok t e1 else .no
  | r => r
theorem me_settle {e : Expr} {srcs ms : List Nat} {m : E} (h : ME X W e srcs ms m) : ME X W e [] ms (settle m) := by
  obtain ⟨t, ht, hm⟩ := h
  refine ⟨t, ht, fun B H env σ fp Q r p => hm B H env σ fp Q r ?_⟩
  unfold settle at p
  cases z : m env with
  | no => rw [z] at p; exact p
  | ex x e1 => rw [z] at p; exact p
  | ok u e1 =>
    rw [z] at p
    dsimp only at p
    intro v B' H' fp' f r' fr g
    by_cases q : noOwn u = true
    · rw [if_pos q] at p
      have hf := g.vr.noOwn q
      subst hf
      exact p v B' H' fp' [] r' fr (.pure g.vr)
    · rw [if_neg q] at p
      exact False.elim p
theorem ME.weak {e : Expr} {srcs srcs' ms ms' : List Nat} {m : E} (h : ME X W e srcs ms m) (h1 : ∀ i ∈ srcs, i ∈ srcs') (h2 : ∀ i ∈ ms, i ∈ ms') : ME X W e srcs' ms' m := by
  obtain ⟨t, ht, hm⟩ := h
  refine ⟨t, ht, fun B H env σ fp Q r p => hm B H env σ fp Q r ?_⟩
  cases z : m env with
  | no => rw [z] at p; exact p
  | ex x e1 => rw [z] at p; exact fun cls d B' H' fp' r' fr => p cls d B' H' fp' r' (fr.weak h2)
  | ok u e1 => rw [z] at p; exact fun v B' H' fp' f r' fr g => p v B' H' fp' f r' (fr.weak h2) ⟨g.vr, g.nd, g.off, new_weak g.new h1⟩
def nilA : A := fun e => .ok [] e
def consA (a : E) (r : A) : A := fun e => (a e).bind fun x e1 => (r e1).bind fun xs e2 => .ok (x :: xs) e2
theorem ma_nil : MA X W [] [] [] nilA := ⟨_, pa_nil, fun B H env σ fp Q r p => p [] B H fp [] r .refl ⟨by unfold VRs; exact ⟨rfl, rfl⟩, fun _ => List.nodup_nil, fun _ z => (nomatch z), fun _ z => (nomatch z)⟩⟩
theorem ma_cons {e : Expr} {es : List Expr} {s1 s2 m1 m2 : List Nat} {a : E} {b : A} (ha : ME X W e s1 m1 a) (hb : MA X W es s2 m2 b) (d : ∀ i ∈ s1, i ∉ m2) (hs : starEach (e :: es) X.env = (false, eval e X.env) :: starEach es X.env) :
    MA X W (e :: es) (s1 ++ s2) (m1 ++ m2) (consA a b) := by
  obtain ⟨t1, h1, k1⟩ := ha
  obtain ⟨t2, h2, k2⟩ := hb
  refine ⟨_, pa_cons h1 h2 hs, fun B H env σ fp Q r p => ?_⟩
  show t1 σ H fun x H1 => t2 σ H1 fun xs H2 => Q (x :: xs) H2
  refine k1 B H env σ fp _ r ?_
  unfold consA at p
  cases z1 : a env with
  | no => rw [z1] at p; exact p
  | ex x e1 => rw [z1] at p; exact fun cls d B' H' fp' r' fr => p cls d B' H' fp' r' (fr.weak fun i hi => List.mem_append_left _ hi)
  | ok u e1 =>
    rw [z1] at p
    intro v B1 H1 fp1 f1 r1 fr1 g1
    refine k2 B1 H1 e1 σ fp1 _ r1 ?_
    replace p : PostA X.K X.mg W σ B H fp (s1 ++ s2) (m1 ++ m2) ((b e1).bind fun xs e2 => .ok (u :: xs) e2) Q := p
    cases z2 : b e1 with
    | no => rw [z2] at p; exact p
    | ex x e2 => rw [z2] at p; exact fun cls d B' H' fp' r' fr => p cls d B' H' fp' r' (fr1.trans fr)
    | ok us e2 =>
      rw [z2] at p
      intro vs B2 H2 fp2 f2 r2 fr2 g2
      have n1 := new_keep g1.new g1.there d fr2
      refine p (v :: vs) B2 H2 fp2 (f1 ++ f2) r2 (fr1.trans fr2) ⟨?_, fun e => ?_, fun a ha => ?_, fun a ha => ?_⟩
      · unfold VRs
        exact ⟨v, vs, f1, f2, rfl, rfl, g1.keep d r1 fr2, g2.vr⟩
      · have e2 : s2 = [] := (List.append_eq_nil_iff.mp e).2
        refine List.nodup_append.mpr ⟨g1.nd, g2.nd e2, fun a ha b hb z => ?_⟩
        subst z
        obtain ⟨o, ho⟩ := g1.there a ha
        rcases g2.new a hb with ⟨q, _⟩ | ⟨i, hi, _⟩
        · rw [ho] at q; cases q
        · rw [e2] at hi; cases hi
      · rcases List.mem_append.mp ha with ha | ha
        · exact off_keep g1.off g1.new g1.there d r1 fr2 a ha
        · exact g2.off a ha
      · rcases List.mem_append.mp ha with ha | ha
        · rcases n1 a ha with q | ⟨i, hi, q⟩
          · exact .inl q
          · exact .inr ⟨i, List.mem_append_left _ hi, q⟩
        · rcases new_pre g2.new fr1 a ha with q | ⟨i, hi, q⟩
          · exact .inl q
          · exact .inr ⟨i, List.mem_append_right _ hi, q⟩
def GivesM (K : PySem.W.Frag) (B H : Hp) (o : Option T) (Q : VK) : Prop := match o with
  | some t => ∀ v B' H' g, Alo B H B' H' → VR K B' H' t v g → g.Nodup → (∀ a ∈ g, H a = none ∧ B' a = none) → Q v H'
  | none => False
def CallM (X : Cx) (r : List V → Hp → VK → Prop) (f : List T → Option T) : Prop := ∀ B H vs ts fs Q, Same B H → VRs X.K B H ts vs fs → GivesM X.K B H (f ts) Q → r vs H Q
def OpM (X : Cx) (r : R2) (f : T → T → Option T) : Prop := ∀ B H x y tx ty f1 f2 Q, Same B H → VR X.K B H tx x f1 → VR X.K B H ty y f2 → GivesM X.K B H (f tx ty) Q → r x y H Q
def bin (f : T → T → Option T) (a b : E) : E := fun e => (a e).bind fun x e1 => (b e1).bind fun y e2 => optR (f x y) e2
def una (f : T → Option T) (a : E) : E := fun e => (a e).bind fun x e1 => optR (f x) e1
def cal (f : List T → Option T) (a : A) : E := fun e => (a e).bind fun x e1 => optR (f x) e1
theorem gives_post {W : WZ} {K : PySem.W.Frag} {mg : Str → Option Value} {σ : St} {B H B1 H1 : Hp} {fp fp1 : Fp} {ms : List Nat} {o : Option T} {e1 : Env} {Q : VK} (r1 : Rel W.z K B1 H1 e1 σ fp1) (fr1 : Fr ms B H fp B1 H1 fp1)
    (p : PostE K mg W σ B H fp [] ms (optR o e1) Q) : GivesM K B1 H1 o Q := by
  cases o with
  | none => exact p
  | some t =>
    intro v B' H' g al vr nd new
    refine p v B' H' fp1 g (r1.alo al) ?_ ⟨vr, nd, fun a ha => (new a ha).2, fun a ha => .inl ⟨fr1.grow a (new a ha).1, fun j hj => ?_⟩⟩
    · have := fr1.trans (al.fr (ms := []) (fp := fp1))
      rw [List.append_nil] at this
      exact this
    · obtain ⟨o, ho, _⟩ := r1.cell hj
      rw [(new a ha).1] at ho
      cases ho
theorem me_bin {a b e : Expr} {s1 s2 m1 m2 : List Nat} {ma mb : E} {r : R2} {f : T → T → Option T} (pe : ∀ {ta tb : TE}, PE X a ta → PE X b tb → PE X e (tOp r ta tb)) (o : OpM X r f) (ha : ME X W a s1 m1 ma) (hb : ME X W b s2 m2 mb) (d : ∀ i ∈ s1, i ∉ m2) :
    ME X W e [] (m1 ++ m2) (bin f ma mb) := by
  obtain ⟨t1, h1, k1⟩ := ha
  obtain ⟨t2, h2, k2⟩ := hb
  refine ⟨_, pe h1 h2, fun B H env σ fp Q rl p => ?_⟩
  show t1 σ H fun x H1 => t2 σ H1 fun y H2 => r x y H2 Q
  refine k1 B H env σ fp _ rl ?_
  unfold bin at p
  cases z1 : ma env with
  | no => rw [z1] at p; exact p
  | ex x e1 => rw [z1] at p; exact fun cls d B' H' fp' r' fr => p cls d B' H' fp' r' (fr.weak fun i hi => List.mem_append_left _ hi)
  | ok u e1 =>
    rw [z1] at p
    intro v B1 H1 fp1 f1 r1 fr1 g1
    refine k2 B1 H1 e1 σ fp1 _ r1 ?_
    replace p : PostE X.K X.mg W σ B H fp [] (m1 ++ m2) ((mb e1).bind fun y e2 => optR (f u y) e2) Q := p
    cases z2 : mb e1 with
    | no => rw [z2] at p; exact p
    | ex x e2 => rw [z2] at p; exact fun cls d B' H' fp' r' fr => p cls d B' H' fp' r' (fr1.trans fr)
    | ok us e2 =>
      rw [z2] at p
      intro vs B2 H2 fp2 f2 r2 fr2 g2
      exact o B2 H2 v vs u us f1 f2 Q r2.sub (g1.keep d r1 fr2) g2.vr (gives_post r2 (fr1.trans fr2) p)
theorem me_cal {es : List Expr} {e : Expr} {s1 m1 : List Nat} {ma : A} {r : List V → Hp → VK → Prop} {f : List T → Option T} (pe : ∀ {t : TA}, PA X es t → PE X e (tCB r t)) (o : CallM X r f) (ha : MA X W es s1 m1 ma) :
    ME X W e [] m1 (cal f ma) := by
  obtain ⟨t1, h1, k1⟩ := ha
  refine ⟨_, pe h1, fun B H env σ fp Q rl p => ?_⟩
  show t1 σ H fun x H1 => r x H1 Q
  refine k1 B H env σ fp _ rl ?_
  unfold cal at p
  cases z1 : ma env with
  | no => rw [z1] at p; exact p
  | ex x e1 => rw [z1] at p; exact p
  | ok u e1 =>
    rw [z1] at p
    intro v B1 H1 fp1 f1 r1 fr1 g1
    exact o B1 H1 v u f1 Q r1.sub g1.vr (gives_post r1 fr1 p)
end
end Mir
namespace Mir
open PySem PySem.Spec L2 PyProof.Rows
def NewT (Q : VK) (H : Hp) (xs : List V) : Prop := ∀ (p : Addr) (o : Obj), H p = none → o.cls = .type "tuple" → o.dict = none → Q (.ref p) (upd H p (.frz o (.tup xs)))
section
variable {X : Cx}
theorem exact_new {pins : List (Addr × Obj)} {σ : L2.St} {H : Hp} {s : Shared} {Q : VK} {xs : List V} {us : List Value} (I : Inv X pins σ H s) (rv : Vals xs us) (hz : xs.length ≤ sizeLine) (q : NewT Q H xs) :
    EP X pins σ Q (.ref s.heap.objs.size) { s with heap := s.heap.push { cls := .type "tuple", data := .seq us.toArray } } :=
  ⟨.ref s.heap.objs.size, _, I.laid (t' := s.toks) (o := .frz { cls := .type "tuple", data := .seq us.toArray } (.tup xs)) (fun b u e => Heap.get?_push_of_some _ e) (Nat.le_refl _) ⟨Heap.get?_push_size _ rfl, hz, us, rv, IsTup.new _ _⟩, rfl, q _ _ (I.hok.fresh (Nat.le_refl _)) rfl rfl⟩
def tTupX (t : TA) : TE := fun σ H Q => t σ H fun xs H1 => xs.length ≤ sizeLine ∧ NewT Q H1 xs
theorem pe_tupX {es : List Expr} {t : TA} {pos : Pos} {x1} (h : PA X es t) : PE X (.Tuple es x1 pos) (tTupX t) := by
  refine ⟨fun pins s σ H Q I hq => ?_⟩
  exact wpAny_Tuple_spliced (thn (h.run pos pins s σ H _ I hq) fun us s1 ⟨xs, H1, I1, r, z, q⟩ => ⟨by rw [← r.length]; exact z, exact_new I1 r z q⟩)
theorem call_tuple_ofX : CallR X (.type "tuple") (fun xs H Q => ∃ p ys, xs = [.ref p] ∧ ((SqL X.K H p ys ∧ NewT Q H ys) ∨ (SqT X.K H p ys ∧ Q (.ref p) H))) := by
  intro pins s σ H xs us Q I r h
  obtain ⟨p, ys, rfl, h⟩ := h
  obtain ⟨u, rfl, rx⟩ := vals1 r
  cases rx
  rcases h with ⟨hq, q⟩ | ⟨hq, q⟩
  · obtain ⟨its, r', pl, hz⟩ := I.list hq
    have hlen := r'.length
    refine call_tuple_list pl.isList (fun h' kp => ?_) (by simp only [List.size_toArray] <;> omega)
    exact exact_new (s := { s with heap := h' }) (I.kept (t' := s.toks) kp) r' hz q
  · obtain ⟨its, r', pl, hz⟩ := I.tuple hq
    exact call_tuple_same pl ⟨.ref p, H, I, rfl, q⟩
def rCatX (K : PySem.W.Frag) : R2 := fun x y H Q => ∃ a b xs ys, x = .ref a ∧ y = .ref b ∧ SqT K H a xs ∧ SqT K H b ys ∧ xs.length + ys.length ≤ sizeLine ∧
  (xs = [] → Q (.ref b) H) ∧ (xs ≠ [] → ys = [] → Q (.ref a) H) ∧ (xs ≠ [] → ys ≠ [] → NewT Q H (xs ++ ys))
theorem op_catX : OpR X (binaryOp .Add) (rCatX X.K) := by
  intro pins s σ H x y v u Q I rx ry h
  obtain ⟨a, b, xs, ys, rfl, rfl, ha, hb, hz, q0, q1, q2⟩ := h
  by_cases hx : xs = []
  · exact op_catA pins s σ H _ _ v u Q I rx ry ⟨a, b, xs, ys, rfl, rfl, ha, hb, hz, q0, q1, fun c => absurd hx c⟩
  · cases rx
    cases ry
    obtain ⟨its, r1, p1, _⟩ := I.tuple ha
    obtain ⟨its2, r2, p2, _⟩ := I.tuple hb
    refine HT.cat_tup p1 p2 (fun z => hx (r1.nil_iff.mp z)) (fun z => ⟨.ref a, H, I, rfl, q1 hx (r2.nil_iff.mp z)⟩) (fun z => ?_) (by rw [← r1.length, ← r2.length]; exact hz)
    exact exact_new I (r1.append r2) (by rw [List.length_append]; exact hz) (q2 hx fun w => z (r2.nil_iff.mpr w))
def rSlX (K : PySem.W.Frag) : V → Option Int → Option Int → Hp → VK → Prop := fun x lo hi H Q => ∃ a xs, x = .ref a ∧ SqT K H a xs ∧
  (HT.sIx xs.length 0 lo = 0 ∧ HT.sIx xs.length xs.length hi = xs.length → Q (.ref a) H) ∧ (¬ (HT.sIx xs.length 0 lo = 0 ∧ HT.sIx xs.length xs.length hi = xs.length) → NewT Q H (cutV xs lo hi))
theorem sl_tupX : SlR X (rSlX X.K) := by
  intro pins s σ H x v vl vu lo hi sl Q I rx hs pl pu h
  obtain ⟨a, xs, rfl, hx, q1, q2⟩ := h
  by_cases hw : HT.sIx xs.length 0 lo = 0 ∧ HT.sIx xs.length xs.length hi = xs.length
  · exact sl_tupA pins s σ H _ v vl vu lo hi sl Q I rx hs pl pu ⟨a, xs, rfl, hx, q1, fun c => absurd hw c⟩
  · cases rx
    obtain ⟨its, r, ht, hz⟩ := I.tuple hx
    have hlen : its.toArray.size = xs.length := by rw [List.size_toArray]; exact r.length.symm
    refine ⟨"tuple", _, PyProof.Rows.slot_tuple_getitem.lookup, ht.typeIs, ?_⟩
    refine HT.getItem_tuple_cut ht hs pl pu (by rw [hlen]; exact hw) ?_ (by rw [hlen]; exact hz)
    rw [hlen]
    exact exact_new I ((r.drop (HT.sIx xs.length 0 lo)).take (HT.sIx xs.length xs.length hi - HT.sIx xs.length 0 lo)) (Nat.le_trans (cutV_length xs lo hi) hz) (q2 hw)
end
end Mir
namespace Mir
open PySem PySem.Spec L2
section
variable {X : Cx} {W : WZ}
def truT : T → Option Bool
  | .non => some false
  | .bl b => some b
  | .int i => some (i != 0)
  | .str s => if s.length ≤ sizeLine then some ((s.length : Int) != 0) else none
  | .tup ts => some (!ts.isEmpty)
  | .lst ts => some (!ts.isEmpty)
  | .rol ts => some (!ts.isEmpty)
  | .own ts => some (!ts.isEmpty)
  | .dct _ => none
  | .odc ts => some (!ts.isEmpty)
  | .yt _ => none
  | .otp _ => none
def tru (m : E) : C := fun e => (m e).bind fun x e1 => optR (truT x) e1
theorem VRs.empty {K : PySem.W.Frag} {B H : Hp} {ts : List T} {vs : List V} {f : List Addr} (h : VRs K B H ts vs f) : vs.isEmpty = ts.isEmpty := by
  have := h.length
  cases ts <;> cases vs <;> simp_all
theorem VRk.empty {K : PySem.W.Frag} {B H : Hp} {ts : List (Key × T)} {vs : List (Key × V)} (h : VRk K B H ts vs) : vs.isEmpty = ts.isEmpty := by
  cases ts with
  | nil => unfold VRk at h; rw [h]; rfl
  | cons t r => unfold VRk at h; obtain ⟨_, _, rfl, _, _⟩ := h; rfl
theorem tru_of {K : PySem.W.Frag} {B H : Hp} {t : T} {v : V} {f : List Addr} {b : Bool} (s : Same B H) (h : VR K B H t v f) (e : truT t = some b) : TruV K v H b := by
  cases t with
  | non => unfold VR at h; obtain ⟨rfl, _⟩ := h; cases e; exact rfl
  | bl c => unfold VR at h; obtain ⟨rfl, _⟩ := h; cases e; exact rfl
  | int i => unfold VR at h; obtain ⟨rfl, _⟩ := h; cases e; exact rfl
  | str z =>
    unfold VR at h; obtain ⟨rfl, _⟩ := h
    replace e : (if z.length ≤ sizeLine then some ((z.length : Int) != 0) else none) = some b := e
    by_cases hz : z.length ≤ sizeLine
    · rw [if_pos hz] at e; cases e; exact ⟨hz, rfl⟩
    · rw [if_neg hz] at e; cases e
  | tup ts =>
    unfold VR at h; obtain ⟨_, a, vs, rfl, q, r⟩ := h
    cases e
    exact .inr (.inl ⟨vs, same_sqT s q, by rw [r.empty]⟩)
  | lst ts =>
    unfold VR at h; obtain ⟨_, a, vs, rfl, q, r⟩ := h
    cases e
    exact .inl ⟨vs, .of (s _ _ q), by rw [r.empty]⟩
  | rol ts =>
    unfold VR at h; obtain ⟨_, a, vs, rfl, q, r⟩ := h
    cases e
    exact .inl ⟨vs, s.seq q, by rw [r.empty]⟩
  | own ts =>
    unfold VR at h; obtain ⟨a, vs, g, rfl, _, q, r⟩ := h
    cases e
    exact .inl ⟨vs, .of q, by rw [r.empty]⟩
  | dct ts => cases e
  | odc ts =>
    unfold VR at h; obtain ⟨a, vs, rfl, _, q, r⟩ := h
    cases e
    exact .inr (.inr ⟨vs, q, by rw [r.empty]⟩)
  | yt ts => cases e
  | otp ts => cases e
theorem post_opt {α : Type} {K : PySem.W.Frag} {mg : Str → Option Value} {σ : St} {B H : Hp} {fp : Fp} {ms : List Nat} {o : Option Bool} {e1 : Env} {Q : Bool → Hp → Prop}
    (p : PostC K mg W σ B H fp ms (optR o e1) Q) : ∃ b, o = some b ∧ ∀ B' H' fp', Rel W.z K B' H' e1 σ fp' → Fr ms B H fp B' H' fp' → Q b H' := by
  cases o with
  | none => exact False.elim p
  | some b => exact ⟨b, rfl, p⟩
theorem mc_tru {e : Expr} {s ms : List Nat} {m : E} (h : ME X W e s ms m) (he : ∀ whole, isTrue e X.env whole = (do let v ← whole; standAt e.pos; holding [v] (truthy v))) : MC X W e ms (tru m) := by
  obtain ⟨t, ht, hm⟩ := h
  refine ⟨_, pt_truth ht he, fun B H env σ fp Q r p => ?_⟩
  refine hm B H env σ fp _ r ?_
  unfold tru at p
  cases z : m env with
  | no => rw [z] at p; exact p
  | ex x e1 => rw [z] at p; exact p
  | ok u e1 =>
    rw [z] at p
    intro v B1 H1 fp1 f1 r1 fr1 g1
    obtain ⟨b, hb, q⟩ := post_opt (α := Bool) p
    exact ⟨b, tru_of r1.sub g1.vr hb, q B1 H1 fp1 r1 fr1⟩
theorem mc_bin {a b e : Expr} {s1 s2 m1 m2 : List Nat} {ma mb : E} {r : R2} {f : T → T → Option T} (pt : ∀ {ta tb : TE}, PE X a ta → PE X b tb → PT X e (tTest (tOp r ta tb))) (o : OpM X r f) (ha : ME X W a s1 m1 ma) (hb : ME X W b s2 m2 mb) (d : ∀ i ∈ s1, i ∉ m2)
    (fb : ∀ x y t, f x y = some t → ∃ k, t = .bl k) : MC X W e (m1 ++ m2) (tru (bin f ma mb)) := by
  obtain ⟨t1, h1, k1⟩ := ha
  obtain ⟨t2, h2, k2⟩ := hb
  refine ⟨_, pt h1 h2, fun B H env σ fp Q rl p => ?_⟩
  show t1 σ H fun x H1 => t2 σ H1 fun y H2 => r x y H2 fun z H3 => ∃ k, z = .bl k ∧ Q k H3
  refine k1 B H env σ fp _ rl ?_
  unfold tru bin at p
  cases z1 : ma env with
  | no => rw [z1] at p; exact p
  | ex x e1 => rw [z1] at p; exact fun cls d B' H' fp' r' fr => p cls d B' H' fp' r' (fr.weak fun i hi => List.mem_append_left _ hi)
  | ok u e1 =>
    rw [z1] at p
    intro v B1 H1 fp1 f1 r1 fr1 g1
    refine k2 B1 H1 e1 σ fp1 _ r1 ?_
    replace p : PostC X.K X.mg W σ B H fp (m1 ++ m2) (((mb e1).bind fun y e2 => optR (f u y) e2).bind fun x e1 => optR (truT x) e1) Q := p
    cases z2 : mb e1 with
    | no => rw [z2] at p; exact p
    | ex x e2 => rw [z2] at p; exact fun cls d B' H' fp' r' fr => p cls d B' H' fp' r' (fr1.trans fr)
    | ok us e2 =>
      rw [z2] at p
      intro vs B2 H2 fp2 f2 r2 fr2 g2
      refine o B2 H2 v vs u us f1 f2 _ r2.sub (g1.keep d r1 fr2) g2.vr ?_
      replace p : PostC X.K X.mg W σ B H fp (m1 ++ m2) ((optR (f u us) e2 : R T).bind fun x e1 => optR (truT x) e1) Q := p
      cases z3 : f u us with
      | none => rw [z3] at p; exact False.elim p
      | some t =>
        obtain ⟨k, rfl⟩ := fb _ _ _ z3
        rw [z3] at p
        intro w B3 H3 g al vr nd new
        unfold VR at vr
        obtain ⟨rfl, rfl⟩ := vr
        refine ⟨k, rfl, p B3 H3 fp2 (r2.alo al) ?_⟩
        have := (fr1.trans fr2).trans (al.fr (ms := []) (fp := fp2))
        rw [List.append_nil] at this
        exact this
def notC (m : C) : C := fun e => (m e).bind fun b e1 => .ok (!b) e1
def andC (a b : C) : C := fun e => (a e).bind fun x e1 => if x then b e1 else .ok false e1
def orC (a b : C) : C := fun e => (a e).bind fun x e1 => if x then .ok true e1 else b e1
theorem mc_not {e : Expr} {ms : List Nat} {m : C} {pos : Pos} (h : MC X W e ms m) : MC X W (.UnaryOp .Not e pos) ms (notC m) := by
  obtain ⟨t, ht, hm⟩ := h
  refine ⟨_, pt_not ht, fun B H env σ fp Q r p => ?_⟩
  show t σ H fun c H1 => Q (!c) H1
  refine hm B H env σ fp _ r ?_
  unfold notC at p
  cases z : m env with
  | no => rw [z] at p; exact p
  | ex x e1 => rw [z] at p; exact p
  | ok u e1 => rw [z] at p; exact p
theorem mw_pt {e : Expr} {ms : List Nat} {m : C} (h : MW X W e ms m) : MC X W e ms m := by
  obtain ⟨t, ht, hm⟩ := h
  exact ⟨t, ht.pt, hm⟩
theorem mw_and1 {e : Expr} {ms : List Nat} {m : C} {pos : Pos} (h : MC X W e ms m) : MW X W (.BoolOp .And [e] pos) ms m := by
  obtain ⟨t, ht, hm⟩ := h
  exact ⟨t, pw_and1 ht, hm⟩
theorem mw_or1 {e : Expr} {ms : List Nat} {m : C} {pos : Pos} (h : MC X W e ms m) : MW X W (.BoolOp .Or [e] pos) ms m := by
  obtain ⟨t, ht, hm⟩ := h
  exact ⟨t, pw_or1 ht, hm⟩
theorem mw_and {a b : Expr} {rest : List Expr} {m1 m2 : List Nat} {ma mb : C} {pos : Pos} (ha : MC X W a m1 ma) (hb : MW X W (.BoolOp .And (b :: rest) pos) m2 mb) : MW X W (.BoolOp .And (a :: b :: rest) pos) (m1 ++ m2) (andC ma mb) := by
  obtain ⟨t1, h1, k1⟩ := ha
  obtain ⟨t2, h2, k2⟩ := hb
  refine ⟨_, pw_and h1 h2, fun B H env σ fp Q r p => ?_⟩
  show t1 σ H fun c H1 => if c = true then t2 σ H1 Q else Q false H1
  refine k1 B H env σ fp _ r ?_
  unfold andC at p
  cases z : ma env with
  | no => rw [z] at p; exact p
  | ex x e1 => rw [z] at p; exact fun cls d B' H' fp' r' fr => p cls d B' H' fp' r' (fr.weak fun i hi => List.mem_append_left _ hi)
  | ok u e1 =>
    rw [z] at p
    intro B1 H1 fp1 r1 fr1
    cases u with
    | false =>
      rw [if_neg Bool.false_ne_true]
      exact p B1 H1 fp1 r1 (fr1.weak fun i hi => List.mem_append_left _ hi)
    | true =>
      rw [if_pos rfl]
      refine k2 B1 H1 e1 σ fp1 _ r1 ?_
      replace p : PostC X.K X.mg W σ B H fp (m1 ++ m2) (mb e1) Q := p
      cases z2 : mb e1 with
      | no => rw [z2] at p; exact p
      | ex x e2 => rw [z2] at p; exact fun cls d B' H' fp' r' fr => p cls d B' H' fp' r' (fr1.trans fr)
      | ok us e2 => rw [z2] at p; exact fun B' H' fp' r' fr => p B' H' fp' r' (fr1.trans fr)
theorem mw_or {a b : Expr} {rest : List Expr} {m1 m2 : List Nat} {ma mb : C} {pos : Pos} (ha : MC X W a m1 ma) (hb : MW X W (.BoolOp .Or (b :: rest) pos) m2 mb) : MW X W (.BoolOp .Or (a :: b :: rest) pos) (m1 ++ m2) (orC ma mb) := by
  obtain ⟨t1, h1, k1⟩ := ha
  obtain ⟨t2, h2, k2⟩ := hb
  refine ⟨_, pw_or h1 h2, fun B H env σ fp Q r p => ?_⟩
  show t1 σ H fun c H1 => if c = true then Q true H1 else t2 σ H1 Q
  refine k1 B H env σ fp _ r ?_
  unfold orC at p
  cases z : ma env with
  | no => rw [z] at p; exact p
  | ex x e1 => rw [z] at p; exact fun cls d B' H' fp' r' fr => p cls d B' H' fp' r' (fr.weak fun i hi => List.mem_append_left _ hi)
  | ok u e1 =>
    rw [z] at p
    intro B1 H1 fp1 r1 fr1
    cases u with
    | true =>
      rw [if_pos rfl]
      exact p B1 H1 fp1 r1 (fr1.weak fun i hi => List.mem_append_left _ hi)
    | false =>
      rw [if_neg Bool.false_ne_true]
      refine k2 B1 H1 e1 σ fp1 _ r1 ?_
      replace p : PostC X.K X.mg W σ B H fp (m1 ++ m2) (mb e1) Q := p
      cases z2 : mb e1 with
      | no => rw [z2] at p; exact p
      | ex x e2 => rw [z2] at p; exact fun cls d B' H' fp' r' fr => p cls d B' H' fp' r' (fr1.trans fr)
      | ok us e2 => rw [z2] at p; exact fun B' H' fp' r' fr => p B' H' fp' r' (fr1.trans fr)
def ifE (c : C) (a b : E) : E := fun e => (c e).bind fun x e1 => if x then a e1 else b e1
def blOf : T → Option Bool
  | .bl b => some b
  | _ => none
def andE (a b : E) : E := fun e => (a e).bind fun x e1 => (optR (blOf x) e1 : R Bool).bind fun k e2 => if k then b e2 else .ok (.bl false) e2
def orE (a b : E) : E := fun e => (a e).bind fun x e1 => (optR (blOf x) e1 : R Bool).bind fun k e2 => if k then .ok (.bl true) e2 else b e2
theorem blOf_of {K : PySem.W.Frag} {B H : Hp} {t : T} {v : V} {f : List Addr} {b : Bool} (h : VR K B H t v f) (e : blOf t = some b) : v = .bl b := by
  cases t <;> simp [blOf] at e
  subst e
  unfold VR at h
  exact h.1
theorem me_one {a : Expr} {s ms : List Nat} {m : E} {op : BoolOp} {pos : Pos} (h : ME X W a s ms m) : ME X W (.BoolOp op [a] pos) s ms m := by
  obtain ⟨t, ht, hm⟩ := h
  exact ⟨t, pe_one ht, hm⟩
theorem me_and {a b : Expr} {rest : List Expr} {s1 s2 m1 m2 : List Nat} {ma mb : E} {pos : Pos} (ha : ME X W a s1 m1 ma) (hb : ME X W (.BoolOp .And (b :: rest) pos) s2 m2 mb) : ME X W (.BoolOp .And (a :: b :: rest) pos) s2 (m1 ++ m2) (andE ma mb) := by
  obtain ⟨t1, h1, k1⟩ := ha
  obtain ⟨t2, h2, k2⟩ := hb
  refine ⟨_, pe_and h1 h2, fun B H env σ fp Q r p => ?_⟩
  show t1 σ H fun x H1 => ∃ c, x = .bl c ∧ if c = true then t2 σ H1 Q else Q (.bl false) H1
  refine k1 B H env σ fp _ r ?_
  unfold andE at p
  cases z : ma env with
  | no => rw [z] at p; exact p
  | ex x e1 => rw [z] at p; exact fun cls d B' H' fp' r' fr => p cls d B' H' fp' r' (fr.weak fun i hi => List.mem_append_left _ hi)
  | ok u e1 =>
    rw [z] at p
    intro v B1 H1 fp1 f1 r1 fr1 g1
    replace p : PostE X.K X.mg W σ B H fp s2 (m1 ++ m2) ((optR (blOf u) e1 : R Bool).bind fun k e2 => if k then mb e2 else .ok (.bl false) e2) Q := p
    cases zb : blOf u with
    | none => rw [zb] at p; exact False.elim p
    | some k =>
      rw [zb] at p
      refine ⟨k, blOf_of g1.vr zb, ?_⟩
      cases k with
      | false =>
        rw [if_neg Bool.false_ne_true]
        exact p _ B1 H1 fp1 [] r1 (fr1.weak fun i hi => List.mem_append_left _ hi) (.pure (by unfold VR; exact ⟨rfl, rfl⟩))
      | true =>
        rw [if_pos rfl]
        refine k2 B1 H1 e1 σ fp1 _ r1 ?_
        replace p : PostE X.K X.mg W σ B H fp s2 (m1 ++ m2) (mb e1) Q := p
        cases z2 : mb e1 with
        | no => rw [z2] at p; exact p
        | ex x e2 => rw [z2] at p; exact fun cls d B' H' fp' r' fr => p cls d B' H' fp' r' (fr1.trans fr)
        | ok us e2 => rw [z2] at p; exact fun v B' H' fp' f r' fr g => p v B' H' fp' f r' (fr1.trans fr) ⟨g.vr, g.nd, g.off, new_pre g.new fr1⟩
def notE (a : E) : E := una (fun t => (blOf t).map fun k => .bl (!k)) a
def tupE (m : A) : E := fun e => (m e).bind fun ts e1 => if ts.length ≤ sizeLine then .ok (.tup (frzs ts)) e1 else .no
def lstE (m : A) : E := fun e => (m e).bind fun ts e1 => if ts.length ≤ sizeLine then .ok (.own ts) e1 else .no
theorem upd_sameH {H : Hp} {p : Addr} {o : HO} (h : H p = none) : Same H (upd H p o) := fun b x e => by
  rw [upd_ne (ne_of_none e h)]; exact e
theorem Rel.take {Z : Option Zx} {K : PySem.W.Frag} {B H : Hp} {env : Env} {σ : St} {fp : Fp} {f : List Addr} (r : Rel Z K B H env σ fp) (off : ∀ a ∈ f, B a = none) (nf : ∀ a ∈ f, ∀ j, a ∉ fp j) : Rel Z K (addB B H f) H env σ fp where
  xc := r.xc.same (addB_same off)
  sub := addB_sub r.sub
  len := r.len
  at_ := fun i => (r.at_ i).mono (addB_same off) fun _ _ _ h => h
  nd := r.nd
  dj := r.dj
  off := fun i a ha => by
    rw [addB_out fun z => nf a z i ha]
    exact r.off i a ha
theorem nil_srcs {H0 : Hp} {fp : Fp} {f : List Addr} (new : ∀ a ∈ f, (H0 a = none ∧ ∀ j, a ∉ fp j) ∨ ∃ i ∈ ([] : List Nat), a ∈ fp i) : ∀ a ∈ f, H0 a = none ∧ ∀ j, a ∉ fp j := fun a ha => by
  rcases new a ha with q | ⟨i, hi, _⟩
  · exact q
  · cases hi
theorem me_tup {es : List Expr} {ms : List Nat} {m : A} {k : Nat} {pos : Pos} (h : MA X W es [] ms m) : ME X W (.Tuple es k pos) [] ms (tupE m) := by
  obtain ⟨t, ht, hm⟩ := h
  refine ⟨_, pe_tupX ht, fun B H env σ fp Q r p => ?_⟩
  show t σ H fun xs H1 => xs.length ≤ sizeLine ∧ NewT Q H1 xs
  refine hm B H env σ fp _ r ?_
  unfold tupE at p
  cases z : m env with
  | no => rw [z] at p; exact p
  | ex x e1 => rw [z] at p; exact p
  | ok ts e1 =>
    rw [z] at p
    intro vs B1 H1 fp1 f r1 fr1 g
    replace p : PostE X.K X.mg W σ B H fp [] ms (if ts.length ≤ sizeLine then .ok (.tup (frzs ts)) e1 else .no) Q := p
    by_cases hl : ts.length ≤ sizeLine
    · rw [if_pos hl] at p
      refine ⟨by rw [g.vr.length]; exact hl, fun a ob ha oc od => ?_⟩
      have new := nil_srcs g.new
      have r2 := r1.take (f := f) g.off fun c hc j => (new c hc).2 j
      have hB : addB B1 H1 f a = none := by
        cases q : addB B1 H1 f a with
        | none => rfl
        | some o => rw [r2.sub a o q] at ha; cases ha
      have al : Alo (addB B1 H1 f) H1 (upd (addB B1 H1 f) a (.frz ob (.tup vs))) (upd H1 a (.frz ob (.tup vs))) := ⟨upd_sameH hB, upd_sameH ha, fun c hc => by
        by_cases e : c = a
        · subst e; exact .inr ha
        · rw [upd_ne e] at hc; exact .inl hc, fun c o hc => by
        by_cases e : c = a
        · subst e; rw [upd_same] at hc ⊢; exact hc
        · rw [upd_ne e] at hc ⊢; exact r2.sub c o hc⟩
      have vf : VRs X.K (addB B1 H1 f) H1 (frzs ts) vs [] := VRs.frz (addB_same g.off) g.vr fun c hc o ho => by rw [addB_in hc]; exact ho
      refine p (.ref a) _ _ fp1 [] (r2.alo al) ?_ (.pure ?_)
      · refine ⟨(fr1.b.trans (addB_same g.off)).trans al.b, fun c o e n => al.h c o (fr1.keep c o e n), fun c e => fr1.grow c ((al.fr (ms := []) (fp := fp1)).grow c e), fun c e => ?_, fr1.fps, fr1.fpm⟩
        rcases al.fresh c e with q | q
        · by_cases hc : c ∈ f
          · exact .inr (.inl (new c hc).1)
          · rw [addB_out hc] at q; exact fr1.fresh c q
        · exact .inr (.inl (fr1.grow c q))
      · unfold VR
        exact ⟨rfl, a, vs, rfl, .inl ⟨ob, oc, od, upd_same⟩, VRs.mono al.b vf (fun _ z => nomatch z)⟩
    · rw [if_neg hl] at p; exact False.elim p
theorem me_lst {es : List Expr} {ms : List Nat} {m : A} {pos : Pos} (h : MA X W es [] ms m) : ME X W (.List es pos) [] ms (lstE m) := by
  obtain ⟨t, ht, hm⟩ := h
  refine ⟨_, pe_lst ht, fun B H env σ fp Q r p => ?_⟩
  show t σ H fun xs H1 => xs.length ≤ sizeLine ∧ ∀ a, H1 a = none → Q (.ref a) (upd H1 a (.lst xs))
  refine hm B H env σ fp _ r ?_
  unfold lstE at p
  cases z : m env with
  | no => rw [z] at p; exact p
  | ex x e1 => rw [z] at p; exact p
  | ok ts e1 =>
    rw [z] at p
    intro vs B1 H1 fp1 f r1 fr1 g
    replace p : PostE X.K X.mg W σ B H fp [] ms (if ts.length ≤ sizeLine then .ok (.own ts) e1 else .no) Q := p
    by_cases hl : ts.length ≤ sizeLine
    · rw [if_pos hl] at p
      refine ⟨by rw [g.vr.length]; exact hl, fun a ha => ?_⟩
      have new := nil_srcs g.new
      have hB : B1 a = none := by
        cases q : B1 a with
        | none => rfl
        | some o => rw [r1.sub a o q] at ha; cases ha
      have al : Alo B1 H1 B1 (upd H1 a (.lst vs)) := ⟨Same.refl _, upd_sameH ha, fun c hc => .inl hc, fun c o hc => upd_sameH ha c o (r1.sub c o hc)⟩
      have na : a ∉ f := fun z => by
        obtain ⟨o, ho⟩ := g.there a z
        rw [ha] at ho; cases ho
      refine p (.ref a) _ _ fp1 (a :: f) (r1.alo al) ?_ ⟨?_, List.nodup_cons.mpr ⟨na, g.nd rfl⟩, fun c hc => ?_, fun c hc => ?_⟩
      · have := fr1.trans (al.fr (ms := []) (fp := fp1))
        rw [List.append_nil] at this
        exact this
      · unfold VR
        exact ⟨a, vs, f, rfl, rfl, upd_same, VRs.mono al.b g.vr fun c hc o ho => al.h c o ho⟩
      · rcases List.mem_cons.mp hc with rfl | hc
        · exact hB
        · exact g.off c hc
      · rcases List.mem_cons.mp hc with rfl | hc
        · exact .inl ⟨fr1.grow c ha, fun j hj => by
            obtain ⟨o, ho, _⟩ := r1.cell hj
            rw [ha] at ho; cases ho⟩
        · exact .inl (new c hc)
    · rw [if_neg hl] at p; exact False.elim p
def items? : T → Option (List T)
  | .tup ts => some ts
  | .lst ts => some ts
  | .rol ts => some ts
  | .own ts => some ts
  | .otp ts => some ts
  | _ => none
def ixT : T → T → Option T
  | .str z, .int k => if z.length ≤ sizeLine then (atI z.cps.toList k).map fun c => .str ⟨#[c]⟩ else none
  | x, .int k => (items? x).bind fun ts => atI ts k
  | _, _ => none
theorem VRs.get {K : PySem.W.Frag} {B H : Hp} : ∀ {ts : List T} {vs : List V} {f : List Addr} {i : Nat} {t : T}, VRs K B H ts vs f → ts[i]? = some t → ∃ v g, vs[i]? = some v ∧ VR K B H t v g ∧ List.Sublist g f
  | [], _, _, _, _, _, e => by simp at e
  | u :: ts, vs, f, 0, t, h, e => by
    unfold VRs at h
    obtain ⟨v, r, f1, f2, rfl, rfl, h1, h2⟩ := h
    simp at e
    subst e
    exact ⟨v, f1, rfl, h1, List.sublist_append_left ..⟩
  | u :: ts, vs, f, i + 1, t, h, e => by
    unfold VRs at h
    obtain ⟨v, r, f1, f2, rfl, rfl, h1, h2⟩ := h
    obtain ⟨w, g, e1, e2, e3⟩ := VRs.get (i := i) (t := t) h2 (by simpa using e)
    exact ⟨w, g, by simpa using e1, e2, e3.trans (List.sublist_append_right ..)⟩
theorem VRs.atI {K : PySem.W.Frag} {B H : Hp} {ts : List T} {vs : List V} {f : List Addr} {k : Int} {t : T} (h : VRs K B H ts vs f) (e : atI ts k = some t) : ∃ v g, L2.atI vs k = some v ∧ VR K B H t v g ∧ List.Sublist g f := by
  unfold L2.atI at e ⊢
  rw [h.length]
  cases z : ixN ts.length k with
  | none => rw [z] at e; cases e
  | some j =>
    rw [z] at e
    exact h.get (i := j) e
theorem ix_of {K : PySem.W.Frag} {B H : Hp} {x y : T} {v w : V} {f g : List Addr} {t : T} {Q : VK} (s : Same B H) (hx : VR K B H x v f) (hy : VR K B H y w g) (e : ixT x y = some t) (q : ∀ u k, VR K B H t u k → List.Sublist k f → Q u H) : rIx K v w H Q := by
  cases y with
  | int k =>
    unfold VR at hy
    obtain ⟨rfl, _⟩ := hy
    cases x with
    | str z =>
      unfold VR at hx
      obtain ⟨rfl, rfl⟩ := hx
      simp only [ixT] at e
      split at e
      · rename_i hz
        cases q2 : L2.atI z.cps.toList k with
        | none => rw [q2] at e; cases e
        | some c =>
          rw [q2] at e
          cases e
          exact .inr (.inr ⟨z, k, c, rfl, rfl, hz, q2, q _ [] (by unfold VR; exact ⟨rfl, rfl⟩) (List.Sublist.refl _)⟩)
      · cases e
    | tup ts =>
      unfold VR at hx
      obtain ⟨rfl, a, vs, rfl, qs, r⟩ := hx
      obtain ⟨u, g2, e1, e2, e3⟩ := r.atI (k := k) (t := t) (by simpa [ixT, items?] using e)
      exact .inr (.inl ⟨a, vs, k, u, rfl, rfl, same_sqT s qs, e1, q u g2 e2 e3⟩)
    | lst ts =>
      unfold VR at hx
      obtain ⟨rfl, a, vs, rfl, qs, r⟩ := hx
      obtain ⟨u, g2, e1, e2, e3⟩ := r.atI (k := k) (t := t) (by simpa [ixT, items?] using e)
      exact .inl ⟨a, vs, k, u, rfl, rfl, .of (s _ _ qs), e1, q u g2 e2 e3⟩
    | rol ts =>
      unfold VR at hx
      obtain ⟨rfl, a, vs, rfl, qs, r⟩ := hx
      obtain ⟨u, g2, e1, e2, e3⟩ := r.atI (k := k) (t := t) (by simpa [ixT, items?] using e)
      exact .inl ⟨a, vs, k, u, rfl, rfl, s.seq qs, e1, q u g2 e2 e3⟩
    | own ts =>
      unfold VR at hx
      obtain ⟨a, vs, g1, rfl, rfl, qs, r⟩ := hx
      obtain ⟨u, g2, e1, e2, e3⟩ := r.atI (k := k) (t := t) (by simpa [ixT, items?] using e)
      exact .inl ⟨a, vs, k, u, rfl, rfl, .of qs, e1, q u g2 e2 (e3.trans (List.sublist_cons_self ..))⟩
    | otp ts =>
      unfold VR at hx
      obtain ⟨_, a, vs, rfl, qs, r⟩ := hx
      obtain ⟨u, g2, e1, e2, e3⟩ := r.atI (k := k) (t := t) (by simpa [ixT, items?] using e)
      exact .inr (.inl ⟨a, vs, k, u, rfl, rfl, same_sqT s qs, e1, q u g2 e2 e3⟩)
    | _ => simp [ixT, items?] at e
  | _ => cases x <;> simp [ixT] at e
theorem me_ix {a b : Expr} {s1 s2 m1 m2 : List Nat} {ma mb : E} {pos : Pos} (ha : ME X W a s1 m1 ma) (hb : ME X W b s2 m2 mb) (d : ∀ i ∈ s1, i ∉ m2) (hs : PlainIx b) : ME X W (.Subscript a b pos) s1 (m1 ++ m2) (bin ixT ma mb) := by
  obtain ⟨t1, h1, k1⟩ := ha
  obtain ⟨t2, h2, k2⟩ := hb
  refine ⟨_, pe_ix ix_seq h1 h2 hs, fun B H env σ fp Q rl p => ?_⟩
  show t1 σ H fun x H1 => t2 σ H1 fun y H2 => rIx X.K x y H2 Q
  refine k1 B H env σ fp _ rl ?_
  unfold bin at p
  cases z1 : ma env with
  | no => rw [z1] at p; exact p
  | ex x e1 => rw [z1] at p; exact fun cls d B' H' fp' r' fr => p cls d B' H' fp' r' (fr.weak fun i hi => List.mem_append_left _ hi)
  | ok u e1 =>
    rw [z1] at p
    intro v B1 H1 fp1 f1 r1 fr1 g1
    refine k2 B1 H1 e1 σ fp1 _ r1 ?_
    replace p : PostE X.K X.mg W σ B H fp s1 (m1 ++ m2) ((mb e1).bind fun y e2 => optR (ixT u y) e2) Q := p
    cases z2 : mb e1 with
    | no => rw [z2] at p; exact p
    | ex x e2 => rw [z2] at p; exact fun cls d B' H' fp' r' fr => p cls d B' H' fp' r' (fr1.trans fr)
    | ok us e2 =>
      rw [z2] at p
      intro vs B2 H2 fp2 f2 r2 fr2 g2
      replace p : PostE X.K X.mg W σ B H fp s1 (m1 ++ m2) (optR (ixT u us) e2) Q := p
      cases z3 : ixT u us with
      | none => rw [z3] at p; exact False.elim p
      | some t =>
        rw [z3] at p
        refine ix_of r2.sub (g1.keep d r1 fr2) g2.vr z3 fun w k vr sl => ?_
        have n1 := new_keep g1.new g1.there d fr2
        have o1 := off_keep g1.off g1.new g1.there d r1 fr2
        exact p w B2 H2 fp2 k r2 (fr1.trans fr2) ⟨vr, sl.nodup g1.nd, fun c hc => o1 c (sl.subset hc), fun c hc => n1 c (sl.subset hc)⟩
end
end Mir
namespace Mir
open PySem PySem.Spec L2
inductive O where
  | nx (e : Env) | rt (t : T) (e : Env) | bk (e : Env) | ct (e : Env) | ex (x : Exc) (e : Env) | no
abbrev S := Env → O
def O.of {α : Type} (r : R α) (f : α → Env → O) : O := match r with
  | .ok a e => f a e
  | .ex x e => .ex x e
  | .no => .no
def Keep (ks : List Nat) (σ σ' : St) : Prop := ∀ i ∈ ks, σ'[i]?.join = σ[i]?.join
theorem Keep.refl {ks : List Nat} {σ : St} : Keep ks σ σ := fun _ _ => rfl
theorem Keep.trans {ks : List Nat} {σ σ1 σ2 : St} (a : Keep ks σ σ1) (b : Keep ks σ1 σ2) : Keep ks σ σ2 := fun i hi => (b i hi).trans (a i hi)
section
variable (K : PySem.W.Frag) (mg : Str → Option Value) (W : WZ) (ks : List Nat) (σ : St) (B H : Hp) (fp : Fp) (rs ms : List Nat)
def PostS (o : O) (D : Ends) : Prop := match o with
  | .nx e => ∀ σ' B' H' fp', Rel W.z K B' H' e σ' fp' → Fr ms B H fp B' H' fp' → Keep ks σ σ' → D.nx σ' H'
  | .rt t e => ∀ v σ' B' H' fp' f, Rel W.z K B' H' e σ' fp' → Fr ms B H fp B' H' fp' → Keep ks σ σ' → Got K B' H' fp' H rs t v f → D.rt v H'
  | .bk e => ∀ σ' B' H' fp', Rel W.z K B' H' e σ' fp' → Fr ms B H fp B' H' fp' → Keep ks σ σ' → D.bk σ' H'
  | .ct e => ∀ σ' B' H' fp', Rel W.z K B' H' e σ' fp' → Fr ms B H fp B' H' fp' → Keep ks σ σ' → D.ct σ' H'
  | .ex x e => ∀ cls d σ' B' H' fp', Rel W.z K B' H' e σ' fp' → Fr ms B H fp B' H' fp' → Keep ks σ σ' → ExR K mg B' x cls d → W.w cls d σ' H'
  | .no => False
end
def MS (X : Cx) (W : WZ) (ks : List Nat) (st : Stmt) (rs ms : List Nat) (m : S) : Prop := ∃ t : TS, PS X st t ∧ ∀ B H env σ fp D, Rel W.z X.K B H env σ fp → PostS X.K X.mg W ks σ B H fp rs ms (m env) D → t D σ H
def MB (X : Cx) (W : WZ) (ks : List Nat) (sts : List Stmt) (rs ms : List Nat) (m : S) : Prop := ∃ t : TS, PSs X sts t ∧ ∀ B H env σ fp D, Rel W.z X.K B H env σ fp → PostS X.K X.mg W ks σ B H fp rs ms (m env) D → t D σ H
section
variable {K : PySem.W.Frag} {mg : Str → Option Value} {W : WZ} {B B1 B' H H1 H' : Hp} {env : Env} {σ : St} {fp fp1 fp' : Fp} {ks rs rs' ms ms' m1 m2 : List Nat}
theorem PostS.weak {o : O} {D : Ends} (p : PostS K mg W ks σ B H fp rs' ms' o D) (h1 : ∀ i ∈ rs, i ∈ rs') (h2 : ∀ i ∈ ms, i ∈ ms') : PostS K mg W ks σ B H fp rs ms o D := by
  cases o with
  | nx e => exact fun σ' B' H' fp' r f => p σ' B' H' fp' r (f.weak h2)
  | rt t e => exact fun v σ' B' H' fp' g r f k q => p v σ' B' H' fp' g r (f.weak h2) k ⟨q.vr, q.nd, q.off, new_weak q.new h1⟩
  | bk e => exact fun σ' B' H' fp' r f => p σ' B' H' fp' r (f.weak h2)
  | ct e => exact fun σ' B' H' fp' r f => p σ' B' H' fp' r (f.weak h2)
  | ex x e => exact fun c d σ' B' H' fp' r f => p c d σ' B' H' fp' r (f.weak h2)
  | no => exact p
theorem PostS.later {σ1 : St} {o : O} {D : Ends} (p : PostS K mg W ks σ B H fp rs (m1 ++ m2) o D) (a : Fr m1 B H fp B1 H1 fp1) (kk : Keep ks σ σ1) : PostS K mg W ks σ1 B1 H1 fp1 rs m2 o D := by
  cases o with
  | nx e => exact fun σ' B' H' fp' r f k => p σ' B' H' fp' r (a.trans f) (kk.trans k)
  | rt t e => exact fun v σ' B' H' fp' g r f k q => p v σ' B' H' fp' g r (a.trans f) (kk.trans k) ⟨q.vr, q.nd, q.off, new_pre q.new a⟩
  | bk e => exact fun σ' B' H' fp' r f k => p σ' B' H' fp' r (a.trans f) (kk.trans k)
  | ct e => exact fun σ' B' H' fp' r f k => p σ' B' H' fp' r (a.trans f) (kk.trans k)
  | ex x e => exact fun c d σ' B' H' fp' r f k => p c d σ' B' H' fp' r (a.trans f) (kk.trans k)
  | no => exact p
end
section
variable {X : Cx} {W : WZ} {ks : List Nat}
theorem MS.weak {st : Stmt} {rs rs' ms ms' : List Nat} {m : S} (h : MS X W ks st rs ms m) (h1 : ∀ i ∈ rs, i ∈ rs') (h2 : ∀ i ∈ ms, i ∈ ms') : MS X W ks st rs' ms' m := by
  obtain ⟨t, ht, hm⟩ := h
  exact ⟨t, ht, fun B H env σ fp D r p => hm B H env σ fp D r (p.weak h1 h2)⟩
theorem MB.weak {st : List Stmt} {rs rs' ms ms' : List Nat} {m : S} (h : MB X W ks st rs ms m) (h1 : ∀ i ∈ rs, i ∈ rs') (h2 : ∀ i ∈ ms, i ∈ ms') : MB X W ks st rs' ms' m := by
  obtain ⟨t, ht, hm⟩ := h
  exact ⟨t, ht, fun B H env σ fp D r p => hm B H env σ fp D r (p.weak h1 h2)⟩
def skip : S := fun e => .nx e
def seq (a b : S) : S := fun e => match a e with
  | .nx e1 => b e1
  | o => o
theorem mb_nil : MB X W ks [] [] [] skip := ⟨_, pss_nil, fun B H env σ fp D r p => p σ B H fp r .refl .refl⟩
theorem mb_one {st : Stmt} {rs ms : List Nat} {m : S} (h : MS X W ks st rs ms m) : MB X W ks [st] rs ms m := by
  obtain ⟨t, ht, hm⟩ := h
  exact ⟨t, pss_one ht, hm⟩
theorem mb_cons {st : Stmt} {sts : List Stmt} {r1 r2 m1 m2 : List Nat} {a b : S} (ha : MS X W ks st r1 m1 a) (hb : MB X W ks sts r2 m2 b) : MB X W ks (st :: sts) (r1 ++ r2) (m1 ++ m2) (seq a b) := by
  obtain ⟨t1, h1, k1⟩ := ha
  obtain ⟨t2, h2, k2⟩ := hb
  refine ⟨_, pss_cons h1 h2, fun B H env σ fp D r p => ?_⟩
  show t1 { D with nx := t2 D } σ H
  refine k1 B H env σ fp _ r ?_
  have wk : ∀ {o : O}, PostS X.K X.mg W ks σ B H fp (r1 ++ r2) (m1 ++ m2) o D → PostS X.K X.mg W ks σ B H fp r1 m1 o D := fun p => p.weak (fun i hi => List.mem_append_left _ hi) (fun i hi => List.mem_append_left _ hi)
  unfold seq at p
  cases z : a env with
  | nx e1 =>
    rw [z] at p
    intro σ1 B1 H1 fp1 q1 fr1 kk1
    exact k2 B1 H1 e1 σ1 fp1 D q1 ((PostS.later p fr1 kk1).weak (fun i hi => List.mem_append_right _ hi) fun i hi => hi)
  | rt t e => rw [z] at p; exact wk p
  | bk e => rw [z] at p; exact wk p
  | ct e => rw [z] at p; exact wk p
  | ex x e => rw [z] at p; exact wk p
  | no => rw [z] at p; exact p
def brk : S := fun e => .bk e
def cnt : S := fun e => .ct e
def ret (m : E) : S := fun e => O.of (m e) fun t e1 => .rt t e1
theorem ms_ret {e : Expr} {rs ms : List Nat} {m : E} {pos : Pos} (h : ME X W e rs ms m) : MS X W ks (.Return (some e) pos) rs ms (ret m) := by
  obtain ⟨t, ht, hm⟩ := h
  refine ⟨_, ps_ret ht, fun B H env σ fp D r p => ?_⟩
  show t σ H D.rt
  refine hm B H env σ fp _ r ?_
  unfold ret at p
  cases z : m env with
  | no => rw [z] at p; exact p
  | ex x e1 => rw [z] at p; exact fun cls d B' H' fp' r' fr => p cls d σ B' H' fp' r' fr .refl
  | ok u e1 => rw [z] at p; exact fun v B' H' fp' f r' fr g => p v σ B' H' fp' f r' fr .refl g
def retN : S := fun e => .rt .non e
def exp (m : E) : S := fun e => O.of (m e) fun _ e1 => .nx e1
theorem ms_expr {e : Expr} {srcs ms : List Nat} {m : E} {pos : Pos} (h : ME X W e srcs ms m) (hs : swapsWith e none pos.line X.env = pure false) : MS X W ks (.Expr e pos) [] ms (exp m) := by
  obtain ⟨t, ht, hm⟩ := h
  refine ⟨_, ps_expr ht hs, fun B H env σ fp D r p => ?_⟩
  show t σ H fun _ H1 => D.nx σ H1
  refine hm B H env σ fp _ r ?_
  unfold exp at p
  cases z : m env with
  | no => rw [z] at p; exact p
  | ex x e1 => rw [z] at p; exact fun cls d B' H' fp' r' fr => p cls d σ B' H' fp' r' fr .refl
  | ok u e1 => rw [z] at p; exact fun v B' H' fp' f r' fr g => p σ B' H' fp' r' fr .refl
def ifS (c : C) (a b : S) : S := fun e => O.of (c e) fun x e1 => if x then a e1 else b e1
theorem ms_if {c : Expr} {a b : List Stmt} {m0 r1 r2 m1 m2 : List Nat} {mc : C} {ma mb : S} {pos : Pos} (hc : MC X W c m0 mc) (ha : MB X W ks a r1 m1 ma) (hb : MB X W ks b r2 m2 mb) : MS X W ks (.If c a b pos) (r1 ++ r2) (m0 ++ (m1 ++ m2)) (ifS mc ma mb) := by
  have ha := ha.weak (rs' := r1 ++ r2) (ms' := m1 ++ m2) (fun i hi => List.mem_append_left _ hi) (fun i hi => List.mem_append_left _ hi)
  have hb := hb.weak (rs' := r1 ++ r2) (ms' := m1 ++ m2) (fun i hi => List.mem_append_right _ hi) (fun i hi => List.mem_append_right _ hi)
  obtain ⟨t0, h0, k0⟩ := hc
  obtain ⟨t1, h1, k1⟩ := ha
  obtain ⟨t2, h2, k2⟩ := hb
  refine ⟨_, ps_if h0 h1 h2, fun B H env σ fp D r p => ?_⟩
  show t0 σ H fun b H1 => if b = true then t1 D σ H1 else t2 D σ H1
  refine k0 B H env σ fp _ r ?_
  unfold ifS at p
  cases z : mc env with
  | no => rw [z] at p; exact p
  | ex x e1 => rw [z] at p; exact fun cls d B' H' fp' r' fr => p cls d σ B' H' fp' r' (fr.weak fun i hi => List.mem_append_left _ hi) .refl
  | ok u e1 =>
    rw [z] at p
    intro B1 H1 fp1 q1 fr1
    cases u with
    | false => rw [if_neg Bool.false_ne_true]; exact k2 B1 H1 e1 σ fp1 D q1 (PostS.later p fr1 .refl)
    | true => rw [if_pos rfl]; exact k1 B1 H1 e1 σ fp1 D q1 (PostS.later p fr1 .refl)
theorem Rel.store {Z : Option Zx} {K : PySem.W.Frag} {B H H0 : Hp} {env : Env} {σ : St} {fp : Fp} {i : Nat} {t : T} {v : V} {f : List Addr} (r : Rel Z K B H env σ fp) (g : Got K B H fp H0 [] t v f) (nz : freeZ Z i = true) :
    ∃ fp', Rel Z K B H (env.set i (some t)) (σ.set i (some v)) fp' ∧ ∀ ms B0 fp0, Fr ms B0 H0 fp0 B H fp → Fr (i :: ms) B0 H0 fp0 B H fp' := by
  have new := nil_srcs g.new
  by_cases hi : i < env.length
  · refine ⟨fp0 fp i f, ⟨r.xc.set2 nz, r.sub, by rw [List.length_set, List.length_set]; exact r.len, fun j => ?_, fun j => ?_, fun j k ne a ha hk => ?_, fun j a ha => ?_⟩, fun ms B0 fq fr => ?_⟩
    · by_cases e : j = i
      · subst e
        rw [join_set_at hi, join_set_at (by rw [← r.len]; exact hi), fp0_at]
        exact ⟨v, rfl, g.vr⟩
      · rw [join_set_ne e, join_set_ne e, fp0_ne e]
        exact r.at_ j
    · by_cases e : j = i
      · subst e; rw [fp0_at]; exact g.nd
      · rw [fp0_ne e]; exact r.nd j
    · by_cases ej : j = i
      · subst ej
        rw [fp0_at] at ha
        rw [fp0_ne (Ne.symm ne)] at hk
        exact (new a ha).2 k hk
      · rw [fp0_ne ej] at ha
        by_cases ek : k = i
        · subst ek
          rw [fp0_at] at hk
          exact (new a hk).2 j ha
        · rw [fp0_ne ek] at hk
          exact r.dj j k ne a ha hk
    · by_cases e : j = i
      · subst e; rw [fp0_at] at ha; exact g.off a ha
      · rw [fp0_ne e] at ha; exact r.off j a ha
    · refine ⟨fr.b, fun c o h n => fr.keep c o h fun j hj => n j (List.mem_cons_of_mem _ hj), fr.grow, fun c h => ?_, fun j hj => ?_, fun j c hc => ?_⟩
      · rcases fr.fresh c h with q | q | ⟨k, hk, q⟩
        · exact .inl q
        · exact .inr (.inl q)
        · exact .inr (.inr ⟨k, List.mem_cons_of_mem _ hk, q⟩)
      · rw [fp0_ne fun e => hj (by rw [e]; exact List.mem_cons_self ..)]
        exact fr.fps j fun z => hj (List.mem_cons_of_mem _ z)
      · by_cases e : j = i
        · subst e; rw [fp0_at] at hc; exact .inr (new c hc).1
        · rw [fp0_ne e] at hc; exact fr.fpm j c hc
  · refine ⟨fp, ⟨r.xc.set2 nz, r.sub, by rw [List.length_set, List.length_set]; exact r.len, fun j => ?_, r.nd, r.dj, r.off⟩, fun ms B0 fq fr => fr.weak fun j hj => List.mem_cons_of_mem _ hj⟩
    rw [List.set_eq_of_length_le (by omega), List.set_eq_of_length_le (by have := r.len; omega)]
    exact r.at_ j
def asg (i : Nat) (m : E) : S := fun e => O.of (m e) fun t e1 => .nx (e1.set i (some t))
theorem ms_asg {st : Stmt} {e : Expr} {i : Nat} {ms : List Nat} {m : E} (ps : ∀ {te : TE}, PE X e te → PS X st (tAsg te (gName i))) (h : ME X W e [] ms m) (nk : i ∉ ks) (nz : freeZ W.z i = true := by rfl) : MS X W ks st [] (i :: ms) (asg i m) := by
  obtain ⟨t, ht, hm⟩ := h
  refine ⟨_, ps ht, fun B H env σ fp D r p => ?_⟩
  show t σ H fun x H1 => D.nx (σ.set i (some x)) H1
  refine hm B H env σ fp _ r ?_
  unfold asg at p
  cases z : m env with
  | no => rw [z] at p; exact p
  | ex x e1 => rw [z] at p; exact fun cls d B' H' fp' r' fr => p cls d σ B' H' fp' r' (fr.weak fun i hi => List.mem_cons_of_mem _ hi) .refl
  | ok u e1 =>
    rw [z] at p
    intro v B1 H1 fp1 f r1 fr1 g1
    obtain ⟨fp', r', k⟩ := r1.store (i := i) g1 nz
    exact p _ B1 H1 fp' r' (k ms B fp fr1) fun j hj => join_set_ne fun e => nk (by rw [← e]; exact hj)
theorem Rel.change {Z : Option Zx} {K : PySem.W.Frag} {B H H' : Hp} {env : Env} {σ : St} {fp : Fp} {i : Nat} {t t' : T} {v : V} {f' : List Addr} {H0 : Hp} (r : Rel Z K B H env σ fp) (et : env[i]?.join = some t) (ev : σ[i]?.join = some v) (keep : ∀ a o, H a = some o → a ∉ fp i → H' a = some o) (sub : ∀ a, H' a = none → H a = none) (h0 : ∀ a, H a = none → H0 a = none)
    (vr : VR K B H' t' v f') (nd : f'.Nodup) (off : ∀ a ∈ f', B a = none) (new : ∀ a ∈ f', a ∈ fp i ∨ (H0 a = none ∧ ∀ j, a ∉ fp j)) :
    Rel Z K B H' (env.set i (some t')) σ (fp0 fp i f') ∧ ∀ ms B0 fq, Fr ms B0 H0 fq B H fp → Fr (ms ++ [i]) B0 H0 fq B H' (fp0 fp i f') := by
  have hi := join_lt et
  have kb : ∀ j, j ≠ i → ∀ a ∈ fp j, ∀ o, H a = some o → H' a = some o := fun j e a ha o h => keep a o h fun z => r.dj j i e a ha z
  refine ⟨⟨r.xc.set (r.xc.ne et), fun a o h => keep a o (r.sub a o h) fun z => ?_, by rw [List.length_set]; exact r.len, fun j => ?_, fun j => ?_, fun j k ne a ha hk => ?_, fun j a ha => ?_⟩, fun ms B0 fq fr => ?_⟩
  · rw [r.off i a z] at h; cases h
  · by_cases e : j = i
    · subst e
      rw [join_set_at hi, fp0_at]
      exact ⟨v, ev, vr⟩
    · rw [join_set_ne e, fp0_ne e]
      exact (r.at_ j).mono (Same.refl B) fun a ha o h => kb j e a ha o h
  · by_cases e : j = i
    · subst e; rw [fp0_at]; exact nd
    · rw [fp0_ne e]; exact r.nd j
  · by_cases ej : j = i
    · subst ej
      rw [fp0_at] at ha
      rw [fp0_ne (Ne.symm ne)] at hk
      rcases new a ha with q | ⟨_, q⟩
      · exact r.dj j k ne a q hk
      · exact q k hk
    · rw [fp0_ne ej] at ha
      by_cases ek : k = i
      · subst ek
        rw [fp0_at] at hk
        rcases new a hk with q | ⟨_, q⟩
        · exact r.dj j k ne a ha q
        · exact q j ha
      · rw [fp0_ne ek] at hk
        exact r.dj j k ne a ha hk
  · by_cases e : j = i
    · subst e; rw [fp0_at] at ha; exact off a ha
    · rw [fp0_ne e] at ha; exact r.off j a ha
  · refine ⟨fr.b, fun c o h n => keep c o (fr.keep c o h fun j hj => n j (List.mem_append_left _ hj)) fun z => ?_, fun c h => fr.grow c (sub c h), fun c h => ?_, fun j hj => ?_, fun j c hc => ?_⟩
    · rcases fr.fpm i c z with q | q
      · exact n i (List.mem_append_right _ (List.mem_cons_self ..)) q
      · rw [h] at q; cases q
    · rcases fr.fresh c h with q | q | ⟨k, hk, q⟩
      · exact .inl q
      · exact .inr (.inl q)
      · exact .inr (.inr ⟨k, List.mem_append_left _ hk, q⟩)
    · rw [fp0_ne fun e => hj (by rw [e]; exact List.mem_append_right _ (List.mem_cons_self ..))]
      exact fr.fps j fun z => hj (List.mem_append_left _ z)
    · by_cases e : j = i
      · subst e
        rw [fp0_at] at hc
        rcases new c hc with q | ⟨q, _⟩
        · exact fr.fpm j c q
        · exact .inr q
      · rw [fp0_ne e] at hc; exact fr.fpm j c hc
theorem VRs.append {K : PySem.W.Frag} {B H : Hp} : ∀ {ts us : List T} {vs ws : List V} {f g : List Addr}, VRs K B H ts vs f → VRs K B H us ws g → VRs K B H (ts ++ us) (vs ++ ws) (f ++ g)
  | [], us, vs, ws, f, g, h, k => by
    unfold VRs at h
    obtain ⟨rfl, rfl⟩ := h
    exact k
  | t :: ts, us, vs, ws, f, g, h, k => by
    unfold VRs at h
    obtain ⟨v, r, f1, f2, rfl, rfl, h1, h2⟩ := h
    show VRs K B H (t :: (ts ++ us)) (v :: (r ++ ws)) (f1 ++ f2 ++ g)
    unfold VRs
    exact ⟨v, r ++ ws, f1, f2 ++ g, rfl, List.append_assoc .., h1, VRs.append h2 k⟩
theorem VRs.one {K : PySem.W.Frag} {B H : Hp} {t : T} {v : V} {f : List Addr} (h : VR K B H t v f) : VRs K B H [t] [v] f := by
  unfold VRs
  exact ⟨v, [], f, [], rfl, (List.append_nil f).symm, h, by unfold VRs; exact ⟨rfl, rfl⟩⟩
theorem VRs.split {K : PySem.W.Frag} {B H : Hp} : ∀ {ts us : List T} {vs : List V} {f : List Addr}, VRs K B H (ts ++ us) vs f → ∃ v1 v2 f1 f2, vs = v1 ++ v2 ∧ f = f1 ++ f2 ∧ VRs K B H ts v1 f1 ∧ VRs K B H us v2 f2
  | [], us, vs, f, h => ⟨[], vs, [], f, rfl, rfl, by unfold VRs; exact ⟨rfl, rfl⟩, h⟩
  | t :: ts, us, vs, f, h => by
    have h : VRs K B H (t :: (ts ++ us)) vs f := h
    unfold VRs at h
    obtain ⟨v, r, f1, f2, rfl, rfl, h1, h2⟩ := h
    obtain ⟨v1, v2, g1, g2, rfl, rfl, k1, k2⟩ := VRs.split h2
    refine ⟨v :: v1, v2, f1 ++ g1, g2, rfl, (List.append_assoc ..).symm, ?_, k2⟩
    unfold VRs
    exact ⟨v, v1, f1, g1, rfl, rfl, h1, k1⟩
theorem VRs.set {K : PySem.W.Frag} {B H : Hp} {u : T} {y : V} {g : List Addr} (hu : VR K B H u y g) : ∀ {ts : List T} {vs : List V} {f : List Addr} (j : Nat), VRs K B H ts vs f → (f ++ g).Nodup → j < ts.length → ∃ f', VRs K B H (ts.set j u) (vs.set j y) f' ∧ f'.Nodup ∧ ∀ a ∈ f', a ∈ f ∨ a ∈ g
  | [], _, _, _, _, _, h => by cases h
  | t :: ts, vs, f, 0, h, nd, _ => by
    unfold VRs at h
    obtain ⟨v, r, f1, f2, rfl, rfl, h1, h2⟩ := h
    refine ⟨g ++ f2, ?_, ?_, fun a ha => ?_⟩
    · show VRs K B H (u :: ts) (y :: r) (g ++ f2)
      unfold VRs
      exact ⟨y, r, g, f2, rfl, rfl, hu, h2⟩
    · have n := List.nodup_append.mp nd
      have n1 := List.nodup_append.mp n.1
      exact List.nodup_append.mpr ⟨n.2.1, n1.2.1, fun a ha b hb e => n.2.2 b (List.mem_append_right _ hb) a ha e.symm⟩
    · rcases List.mem_append.mp ha with q | q
      · exact .inr q
      · exact .inl (List.mem_append_right _ q)
  | t :: ts, vs, f, j + 1, h, nd, lt => by
    unfold VRs at h
    obtain ⟨v, r, f1, f2, rfl, rfl, h1, h2⟩ := h
    have n := List.nodup_append.mp nd
    have n1 := List.nodup_append.mp n.1
    have nd2 : (f2 ++ g).Nodup := List.nodup_append.mpr ⟨n1.2.1, n.2.1, fun a ha b hb => n.2.2 a (List.mem_append_right _ ha) b hb⟩
    obtain ⟨f', k1, k2, k3⟩ := VRs.set hu j h2 nd2 (Nat.lt_of_succ_lt_succ lt)
    refine ⟨f1 ++ f', ?_, ?_, fun a ha => ?_⟩
    · show VRs K B H (t :: ts.set j u) (v :: r.set j y) (f1 ++ f')
      unfold VRs
      exact ⟨v, r.set j y, f1, f', rfl, rfl, h1, k1⟩
    · refine List.nodup_append.mpr ⟨n1.1, k2, fun a ha b hb e => ?_⟩
      subst e
      rcases k3 a hb with q | q
      · exact n1.2.2 a ha a q rfl
      · exact n.2.2 a (List.mem_append_left _ ha) a q rfl
    · rcases List.mem_append.mp ha with q | q
      · exact .inl (List.mem_append_left _ q)
      · rcases k3 a q with z | z
        · exact .inl (List.mem_append_right _ z)
        · exact .inr z
end
end Mir
namespace Mir
open PySem PySem.Spec L2
section
variable {X : Cx} {W : WZ} {ks : List Nat}
def canE (K : PySem.W.Frag) (mg : Str → Option Value) (W : WZ) (srcs ms : List Nat) (m : E) : TE := fun σ H Q => ∃ B env fp, Rel W.z K B H env σ fp ∧ PostE K mg W σ B H fp srcs ms (m env) Q
def canC (K : PySem.W.Frag) (mg : Str → Option Value) (W : WZ) (ms : List Nat) (m : C) : TT := fun σ H Q => ∃ B env fp, Rel W.z K B H env σ fp ∧ PostC K mg W σ B H fp ms (m env) Q
def canB (K : PySem.W.Frag) (mg : Str → Option Value) (W : WZ) (ks rs ms : List Nat) (m : S) : TS := fun D σ H => ∃ B env fp, Rel W.z K B H env σ fp ∧ PostS K mg W ks σ B H fp rs ms (m env) D
theorem ME.can {e : Expr} {srcs ms : List Nat} {m : E} (h : ME X W e srcs ms m) : PE X e (canE X.K X.mg W srcs ms m) := by
  obtain ⟨t, ht, hm⟩ := h
  exact ⟨fun pins s σ H Q I ⟨B, env, fp, r, p⟩ => ht.run pins s σ H Q I (hm B H env σ fp Q r p)⟩
theorem MC.can {e : Expr} {ms : List Nat} {m : C} (h : MC X W e ms m) : PT X e (canC X.K X.mg W ms m) := by
  obtain ⟨t, ht, hm⟩ := h
  exact ⟨fun pins s σ H Q I ⟨B, env, fp, r, p⟩ => ht.run pins s σ H Q I (hm B H env σ fp Q r p)⟩
theorem MB.can {sts : List Stmt} {rs ms : List Nat} {m : S} (h : MB X W ks sts rs ms m) : PSs X sts (canB X.K X.mg W ks rs ms m) := by
  obtain ⟨t, ht, hm⟩ := h
  exact ⟨fun pins s σ H D I ⟨B, env, fp, r, p⟩ => ht.run pins s σ H D I (hm B H env σ fp D r p)⟩
def ownAt (e : Env) (i : Nat) : Option (List T) := match e[i]?.join with
  | some (.own ts) => some ts
  | _ => none
theorem ownAt_of {e : Env} {i : Nat} {ts : List T} (h : ownAt e i = some ts) : e[i]?.join = some (.own ts) := by
  unfold ownAt at h
  split at h
  · rename_i us h2; rw [h2]; cases h; rfl
  · cases h
theorem own_slot {Z : Option Zx} {K : PySem.W.Frag} {B H : Hp} {env : Env} {σ : St} {fp : Fp} {i : Nat} {ts : List T} (r : Rel Z K B H env σ fp) (h : ownAt env i = some ts) :
    ∃ a vs g, σ[i]? = some (some (.ref a)) ∧ fp i = a :: g ∧ H a = some (.lst vs) ∧ VRs K B H ts vs g ∧ env[i]?.join = some (.own ts) ∧ B a = none := by
  have e := ownAt_of h
  have q := r.at_ i
  rw [e] at q
  obtain ⟨v, hv, vr⟩ := q
  unfold VR at vr
  obtain ⟨a, vs, g, rfl, hf, ha, rs⟩ := vr
  refine ⟨a, vs, g, ?_, hf, ha, rs, e, r.off i a (by rw [hf]; exact List.mem_cons_self ..)⟩
  cases z : σ[i]? with
  | none => rw [z] at hv; cases hv
  | some u => rw [z] at hv; exact congrArg some hv
theorem join_of {σ : St} {i : Nat} {v : V} (h : σ[i]? = some (some v)) : σ[i]?.join = some v := by rw [h]; rfl
theorem Rel.relist {Z : Option Zx} {K : PySem.W.Frag} {B H H0 : Hp} {env : Env} {σ : St} {fp : Fp} {i : Nat} {ts us : List T} {a : Addr} {ws : List V} {g g' : List Addr} (r : Rel Z K B H env σ fp) (et : env[i]?.join = some (.own ts)) (ev : σ[i]? = some (some (.ref a))) (hf : fp i = a :: g)
    (h0 : ∀ a, H a = none → H0 a = none) (vr : VRs K B H us ws g') (nd : g'.Nodup) (off : ∀ c ∈ g', B c = none) (new : ∀ c ∈ g', c ∈ g ∨ (H0 c = none ∧ ∀ j, c ∉ fp j)) :
    Rel Z K B (upd H a (.lst ws)) (env.set i (some (.own us))) σ (fp0 fp i (a :: g')) ∧ ∀ ms B0 fq, Fr ms B0 H0 fq B H fp → Fr (ms ++ [i]) B0 H0 fq B (upd H a (.lst ws)) (fp0 fp i (a :: g')) := by
  have ni := r.nd i
  rw [hf] at ni
  have na : a ∉ g' := fun z => by
    rcases new a z with q | ⟨_, q⟩
    · exact (List.nodup_cons.mp ni).1 q
    · exact q i (by rw [hf]; exact List.mem_cons_self ..)
  refine r.change et (join_of ev) (fun c o hc n => ?_) (fun c hc => ?_) h0 ?_ (List.nodup_cons.mpr ⟨na, nd⟩) (fun c hc => ?_) (fun c hc => ?_)
  · rw [upd_ne fun z => n (by rw [z, hf]; exact List.mem_cons_self ..)]; exact hc
  · by_cases e : c = a
    · subst e; rw [upd_same] at hc; cases hc
    · rw [upd_ne e] at hc; exact hc
  · unfold VR
    refine ⟨a, ws, g', rfl, rfl, upd_same, vr.mono (Same.refl B) fun c hc o h => ?_⟩
    rw [upd_ne fun z => na (by rw [← z]; exact hc)]; exact h
  · rcases List.mem_cons.mp hc with rfl | hc
    · exact r.off i c (by rw [hf]; exact List.mem_cons_self ..)
    · exact off c hc
  · rcases List.mem_cons.mp hc with rfl | hc
    · exact .inl (by rw [hf]; exact List.mem_cons_self ..)
    · rcases new c hc with q | q
      · exact .inl (by rw [hf]; exact List.mem_cons_of_mem _ q)
      · exact .inr q
def appendE (i : Nat) (m : E) : E := fun e => match ownAt e i with
  | some _ => (m e).bind fun t e1 => match ownAt e1 i with
    | some ts => if ts.length < sizeLine then .ok .non (e1.set i (some (.own (ts ++ [t])))) else .no
    | none => .no
  | none => .no
theorem tyV_list {K : PySem.W.Frag} {H : Hp} {a : Addr} {vs : List V} (h : SqL K H a vs) : tyV K "list" (.ref a) H := .inl ⟨rfl, vs, h⟩
theorem vr_non {K : PySem.W.Frag} {B H : Hp} : VR K B H .non .non [] := by unfold VR; exact ⟨rfl, rfl⟩
theorem vr_bl {K : PySem.W.Frag} {B H : Hp} {b : Bool} : VR K B H (.bl b) (.bl b) [] := by unfold VR; exact ⟨rfl, rfl⟩
theorem vr_int {K : PySem.W.Frag} {B H : Hp} {b : Int} : VR K B H (.int b) (.int b) [] := by unfold VR; exact ⟨rfl, rfl⟩
theorem vr_str {K : PySem.W.Frag} {B H : Hp} {b : Str} : VR K B H (.str b) (.str b) [] := by unfold VR; exact ⟨rfl, rfl⟩
theorem me_append {e c : Expr} {i : Nat} {ms : List Nat} {m : E} (pe : ∀ {te : TE}, PE X e te → PE X c (tBM X.K "list" rAppend (tVar i) (tCons te tNil))) (h : ME X W e [] ms m) : ME X W c [] (ms ++ [i]) (appendE i m) := by
  obtain ⟨t, ht, hm⟩ := h
  refine ⟨_, pe ht, fun B H env σ fp Q r p => ?_⟩
  unfold appendE at p
  cases z0 : ownAt env i with
  | none => rw [z0] at p; exact False.elim p
  | some us =>
    rw [z0] at p
    replace p : PostE X.K X.mg W σ B H fp [] (ms ++ [i]) ((m env).bind fun t e1 => match ownAt e1 i with
      | some ts => if ts.length < sizeLine then .ok .non (e1.set i (some (.own (ts ++ [t])))) else .no
      | none => .no) Q := p
    obtain ⟨a, vs, g, ev, hf, ha, rs, _, _⟩ := own_slot r z0
    refine ⟨.ref a, ev, tyV_list (.of ha), ?_⟩
    show t σ H fun y H1 => rAppend (.ref a) [y] H1 Q
    refine hm B H env σ fp _ r ?_
    cases z : m env with
    | no => rw [z] at p; exact p
    | ex x e1 => rw [z] at p; exact fun cls d B' H' fp' r' fr => p cls d B' H' fp' r' (fr.weak fun i hi => List.mem_append_left _ hi)
    | ok u e1 =>
      rw [z] at p
      intro y B1 H1 fp1 f r1 fr1 g1
      replace p : PostE X.K X.mg W σ B H fp [] (ms ++ [i]) (match ownAt e1 i with
        | some ts => if ts.length < sizeLine then .ok .non (e1.set i (some (.own (ts ++ [u])))) else .no
        | none => .no) Q := p
      cases z1 : ownAt e1 i with
      | none => rw [z1] at p; exact False.elim p
      | some ts =>
        rw [z1] at p
        replace p : PostE X.K X.mg W σ B H fp [] (ms ++ [i]) (if ts.length < sizeLine then .ok .non (e1.set i (some (.own (ts ++ [u])))) else .no) Q := p
        by_cases hl : ts.length < sizeLine
        · rw [if_pos hl] at p
          obtain ⟨b, ws, k, ev1, hf1, hb, rs1, et1, _⟩ := own_slot r1 z1
          have eab : b = a := by rw [ev] at ev1; injection ev1 with ev1; injection ev1 with ev1; injection ev1 with ev1; exact ev1.symm
          subst eab
          have new := nil_srcs g1.new
          have nk := r1.nd i
          rw [hf1] at nk
          refine ⟨b, ws, y, rfl, rfl, hb, by rw [rs1.length]; exact hl, ?_⟩
          obtain ⟨r2, k2⟩ := r1.relist (H0 := H) (us := ts ++ [u]) (ws := ws ++ [y]) (g' := k ++ f) et1 ev1 hf1 (fun c hc => fr1.grow c hc) (rs1.append (.one g1.vr)) (List.nodup_append.mpr ⟨(List.nodup_cons.mp nk).2, g1.nd, fun c hc d hd z => by
            subst z
            exact (new c hd).2 i (by rw [hf1]; exact List.mem_cons_of_mem _ hc)⟩) (fun c hc => by
            rcases List.mem_append.mp hc with q | q
            · exact r1.off i c (by rw [hf1]; exact List.mem_cons_of_mem _ q)
            · exact g1.off c q) (fun c hc => by
            rcases List.mem_append.mp hc with q | q
            · exact .inl q
            · exact .inr (new c q))
          exact p .non B1 _ _ [] r2 (k2 ms B fp fr1) (.pure vr_non)
        · rw [if_neg hl] at p; exact False.elim p
def setAt (i : Nat) (u : T) (e2 : Env) (j : T) : O := match ownAt e2 i with
  | some ts => (match j with
    | .int n => (match ixN ts.length n with
      | some q => .nx (e2.set i (some (.own (ts.set q u))))
      | none => .no)
    | _ => .no)
  | none => .no
def setIx (i : Nat) (k m : E) : S := fun e => O.of (m e) fun t e1 => match ownAt e1 i with
  | some _ => O.of (k e1) fun j e2 => setAt i t e2 j
  | none => .no
theorem setAt_ok {i : Nat} {u : T} {e : Env} {j : T} (h : setAt i u e j ≠ .no) : ∃ ts n q, ownAt e i = some ts ∧ j = .int n ∧ ixN ts.length n = some q ∧ setAt i u e j = .nx (e.set i (some (.own (ts.set q u)))) := by
  unfold setAt at h ⊢
  cases z : ownAt e i with
  | none => rw [z] at h; exact absurd rfl h
  | some ts =>
    rw [z] at h
    cases j with
    | int n =>
      dsimp only at h ⊢
      cases z4 : ixN ts.length n with
      | none => rw [z4] at h; exact absurd rfl h
      | some q => exact ⟨ts, n, q, rfl, rfl, z4, rfl⟩
    | _ => exact absurd rfl h
theorem ixN_lt {n : Nat} {i : Int} {j : Nat} (h : ixN n i = some j) : j < n := (ixN_seq h).2.1
theorem ms_setIx {st : Stmt} {e q : Expr} {i : Nat} {s2 m1 m2 : List Nat} {m k : E} (ps : ∀ {te ti : TE}, PE X e te → PE X q ti → PS X st (tAsg te (gSub (tVar i) ti rSetL))) (h : ME X W e [] m1 m) (hk : ME X W q s2 m2 k) : MS X W ks st [] (m1 ++ m2 ++ [i]) (setIx i k m) := by
  obtain ⟨t, ht, hm⟩ := h
  obtain ⟨t2, ht2, hm2⟩ := hk
  refine ⟨_, ps ht ht2, fun B H env σ fp D r p => ?_⟩
  show t σ H fun x H1 => tVar i σ H1 fun o H2 => t2 σ H2 fun j H3 => rSetL o j x H3 fun H4 => D.nx σ H4
  refine hm B H env σ fp _ r ?_
  unfold setIx at p
  have wk : ∀ c ∈ m1, c ∈ m1 ++ m2 ++ [i] := fun c hc => List.mem_append_left _ (List.mem_append_left _ hc)
  cases z : m env with
  | no => rw [z] at p; exact p
  | ex x e1 => rw [z] at p; exact fun cls d B' H' fp' r' fr => p cls d σ B' H' fp' r' (fr.weak wk) .refl
  | ok u e1 =>
    rw [z] at p
    intro y B1 H1 fp1 f r1 fr1 g1
    replace p : PostS X.K X.mg W ks σ B H fp [] (m1 ++ m2 ++ [i]) (match ownAt e1 i with
      | some _ => O.of (k e1) fun j e2 => setAt i u e2 j
      | none => .no) D := p
    cases z1 : ownAt e1 i with
    | none => rw [z1] at p; exact False.elim p
    | some us =>
      rw [z1] at p
      replace p : PostS X.K X.mg W ks σ B H fp [] (m1 ++ m2 ++ [i]) (O.of (k e1) fun j e2 => setAt i u e2 j) D := p
      obtain ⟨a, _, _, ev, _, _, _, _, _⟩ := own_slot r1 z1
      refine ⟨.ref a, ev, ?_⟩
      refine hm2 B1 H1 e1 σ fp1 _ r1 ?_
      cases z2 : k e1 with
      | no => rw [z2] at p; exact p
      | ex x e2 => rw [z2] at p; exact fun cls d B' H' fp' r' fr => p cls d σ B' H' fp' r' ((fr1.trans fr).weak fun c hc => List.mem_append_left _ hc) .refl
      | ok j e2 =>
        rw [z2] at p
        intro w B2 H2 fp2 f2 r2 fr2 g2
        replace p : PostS X.K X.mg W ks σ B H fp [] (m1 ++ m2 ++ [i]) (setAt i u e2 j) D := p
        obtain ⟨ts, n, c, z3, rfl, z4, z5⟩ := setAt_ok (i := i) (u := u) (e := e2) (j := j) fun z => by rw [z] at p; exact p
        rw [z5] at p
        have hw := g2.vr
        unfold VR at hw
        obtain ⟨rfl, _⟩ := hw
        obtain ⟨b, ws, gk, ev1, hf1, hb, rs1, et1, _⟩ := own_slot r2 z3
        have eab : b = a := by rw [ev] at ev1; injection ev1 with ev1; injection ev1 with ev1; injection ev1 with ev1; exact ev1.symm
        subst eab
        have dn : ∀ c ∈ ([] : List Nat), c ∉ m2 := fun _ z => nomatch z
        have y2 := g1.keep dn r1 fr2
        have n2 := nil_srcs (new_keep g1.new g1.there dn fr2)
        have o2 := off_keep g1.off g1.new g1.there dn r1 fr2
        have nk := r2.nd i
        rw [hf1] at nk
        obtain ⟨f', q1, q2, q3⟩ := VRs.set y2 c rs1 (List.nodup_append.mpr ⟨(List.nodup_cons.mp nk).2, g1.nd, fun x hx d hd z => by
          subst z
          exact (n2 x hd).2 i (by rw [hf1]; exact List.mem_cons_of_mem _ hx)⟩) (ixN_lt z4)
        refine ⟨b, ws, n, c, rfl, rfl, hb, by rw [rs1.length]; exact z4, ?_⟩
        have frs := fr1.trans fr2
        obtain ⟨r3, k3⟩ := r2.relist (H0 := H) (us := ts.set c u) (ws := ws.set c y) (g' := f') et1 ev1 hf1 (fun c hc => frs.grow c hc) q1 q2 (fun x hx => by
          rcases q3 x hx with q | q
          · exact r2.off i x (by rw [hf1]; exact List.mem_cons_of_mem _ q)
          · exact o2 x q) (fun x hx => by
          rcases q3 x hx with q | q
          · exact .inl q
          · exact .inr (n2 x q))
        exact p σ B2 _ _ r3 (k3 _ B fp frs) .refl
def popE (i : Nat) : E := fun e => match ownAt e i with
  | some ts => (match ts[ts.length - 1]? with
    | some t => if noOwn t then .ok t (e.set i (some (.own ts.dropLast))) else .no
    | none => .no)
  | none => .no
theorem VRs.dropLast {K : PySem.W.Frag} {B H : Hp} {ts : List T} {vs : List V} {f : List Addr} (h : VRs K B H ts vs f) : ∃ g, VRs K B H ts.dropLast vs.dropLast g ∧ List.Sublist g f := by
  cases ts with
  | nil =>
    unfold VRs at h
    obtain ⟨rfl, rfl⟩ := h
    exact ⟨[], by unfold VRs; exact ⟨rfl, rfl⟩, List.Sublist.refl _⟩
  | cons t r =>
    have e : (t :: r) = (t :: r).dropLast ++ [(t :: r).getLast (List.cons_ne_nil _ _)] := (List.dropLast_concat_getLast (List.cons_ne_nil _ _)).symm
    rw [e] at h
    obtain ⟨v1, v2, f1, f2, rfl, rfl, h1, h2⟩ := h.split
    refine ⟨f1, ?_, List.sublist_append_left ..⟩
    have l2 := h2.length
    have : (v1 ++ v2).dropLast = v1 := by
      match v2, l2 with
      | [x], _ => exact List.dropLast_concat
    rw [this]
    exact h1
theorem me_pop {c : Expr} {i : Nat} (pe : PE X c (tBM0 X.K "list" rPop (tVar i))) : ME X W c [] [i] (popE i) := by
  refine ⟨_, pe, fun B H env σ fp Q r p => ?_⟩
  unfold popE at p
  cases z0 : ownAt env i with
  | none => rw [z0] at p; exact False.elim p
  | some ts =>
    rw [z0] at p
    dsimp only at p
    cases z1 : ts[ts.length - 1]? with
    | none => rw [z1] at p; exact False.elim p
    | some t =>
      rw [z1] at p
      dsimp only at p
      by_cases no : noOwn t = true
      · rw [if_pos no] at p
        obtain ⟨a, vs, g, ev, hf, ha, rs, et, _⟩ := own_slot r z0
        obtain ⟨y, k, e1, vr, _⟩ := rs.get z1
        have hk := vr.noOwn no
        subst hk
        refine ⟨.ref a, ev, tyV_list (.of ha), a, vs, y, rfl, rfl, ha, by rw [rs.length]; exact e1, ?_⟩
        obtain ⟨g', r1, sl⟩ := rs.dropLast
        have nk := r.nd i
        rw [hf] at nk
        obtain ⟨r2, k2⟩ := r.relist (H0 := H) (us := ts.dropLast) (ws := vs.dropLast) (g' := g') et ev hf (fun _ h => h) r1 (sl.nodup (List.nodup_cons.mp nk).2) (fun c hc => r.off i c (by rw [hf]; exact List.mem_cons_of_mem _ (sl.subset hc))) fun c hc => .inl (sl.subset hc)
        exact p y B _ _ [] r2 (k2 [] B fp .refl) (.pure (vr.mono (Same.refl B) fun _ z => nomatch z))
      · rw [if_neg no] at p; exact False.elim p
def insT (ts : List T) (j t : T) : Option (List T) := match j with
  | .int n => if ts.length < sizeLine ∧ 0 ≤ n ∧ n.natAbs < 9223372036854775808 then some (ts.take n.toNat ++ [t] ++ ts.drop n.toNat) else none
  | _ => none
def insertE (i : Nat) (k m : E) : E := fun e => match ownAt e i with
  | some _ => (k e).bind fun j e1 => (m e1).bind fun t e2 => match ownAt e2 i with
    | some ts => (match insT ts j t with
      | some us => .ok .non (e2.set i (some (.own us)))
      | none => .no)
    | none => .no
  | none => .no
theorem insT_ok {ts us : List T} {j t : T} (h : insT ts j t = some us) : ∃ n, j = .int n ∧ ts.length < sizeLine ∧ 0 ≤ n ∧ n < 2 ^ 63 ∧ us = ts.take n.toNat ++ [t] ++ ts.drop n.toNat := by
  cases j with
  | int n =>
    unfold insT at h
    dsimp only at h
    by_cases c : ts.length < sizeLine ∧ 0 ≤ n ∧ n.natAbs < 9223372036854775808
    · rw [if_pos c] at h; cases h; exact ⟨n, rfl, c.1, c.2.1, by omega, rfl⟩
    · rw [if_neg c] at h; cases h
  | _ => cases h
theorem me_insert {a b c : Expr} {i : Nat} {s1 m1 m2 : List Nat} {k m : E} (pe : ∀ {ta tb : TE}, PE X a ta → PE X b tb → PE X c (tBM X.K "list" (fun x vs H Q => ∃ (l : Addr) (xs : List V) (i : Int) (y : V), x = .ref l ∧ vs = [.int i, y] ∧ H l = some (.lst xs) ∧ xs.length < sizeLine ∧ 0 ≤ i ∧ i < 2 ^ 63 ∧
    Q .non (upd H l (.lst (xs.take i.toNat ++ [y] ++ xs.drop i.toNat)))) (tVar i) (tCons ta (tCons tb tNil)))) (hk : ME X W a s1 m1 k) (h : ME X W b [] m2 m) : ME X W c [] (m1 ++ m2 ++ [i]) (insertE i k m) := by
  obtain ⟨t1, ht1, hm1⟩ := hk
  obtain ⟨t2, ht2, hm2⟩ := h
  refine ⟨_, pe ht1 ht2, fun B H env σ fp Q r p => ?_⟩
  unfold insertE at p
  cases z0 : ownAt env i with
  | none => rw [z0] at p; exact False.elim p
  | some us0 =>
    rw [z0] at p
    dsimp only at p
    obtain ⟨a, vs, g, ev, hf, ha, rs, _, _⟩ := own_slot r z0
    refine ⟨.ref a, ev, tyV_list (.of ha), ?_⟩
    refine hm1 B H env σ fp _ r ?_
    cases z : k env with
    | no => rw [z] at p; exact p
    | ex x e1 => rw [z] at p; exact fun cls d B' H' fp' r' fr => p cls d B' H' fp' r' (fr.weak fun i hi => List.mem_append_left _ (List.mem_append_left _ hi))
    | ok j e1 =>
      rw [z] at p
      intro w B1 H1 fp1 f1 r1 fr1 g1
      refine hm2 B1 H1 e1 σ fp1 _ r1 ?_
      replace p : PostE X.K X.mg W σ B H fp [] (m1 ++ m2 ++ [i]) ((m e1).bind fun t e2 => match ownAt e2 i with
        | some ts => (match insT ts j t with
          | some us => .ok .non (e2.set i (some (.own us)))
          | none => .no)
        | none => .no) Q := p
      cases z2 : m e1 with
      | no => rw [z2] at p; exact p
      | ex x e2 => rw [z2] at p; exact fun cls d B' H' fp' r' fr => p cls d B' H' fp' r' ((fr1.trans fr).weak fun i hi => List.mem_append_left _ hi)
      | ok u e2 =>
        rw [z2] at p
        intro y B2 H2 fp2 f2 r2 fr2 g2
        replace p : PostE X.K X.mg W σ B H fp [] (m1 ++ m2 ++ [i]) (match ownAt e2 i with
          | some ts => (match insT ts j u with
            | some us => .ok .non (e2.set i (some (.own us)))
            | none => .no)
          | none => .no) Q := p
        cases z3 : ownAt e2 i with
        | none => rw [z3] at p; exact False.elim p
        | some ts =>
          rw [z3] at p
          dsimp only at p
          cases z4 : insT ts j u with
          | none => rw [z4] at p; exact False.elim p
          | some us =>
            rw [z4] at p
            dsimp only at p
            obtain ⟨n, rfl, c1, c2, c3, rfl⟩ := insT_ok z4
            have hw := g1.vr
            unfold VR at hw
            obtain ⟨rfl, _⟩ := hw
            obtain ⟨b, ws, gk, ev1, hf1, hb, rs1, et1, _⟩ := own_slot r2 z3
            have eab : b = a := by rw [ev] at ev1; injection ev1 with ev1; injection ev1 with ev1; injection ev1 with ev1; exact ev1.symm
            subst eab
            have frs := fr1.trans fr2
            have new := nil_srcs g2.new
            have nk := r2.nd i
            rw [hf1] at nk
            have rs2 := rs1
            rw [← List.take_append_drop n.toNat ts] at rs2
            obtain ⟨v1, v2, k1, k2, ev2, ek, q1, q2⟩ := rs2.split
            have l1 := q1.length
            have hv1 : ws.take n.toNat = v1 := by
              rw [ev2]
              by_cases hl : n.toNat ≤ ts.length
              · rw [List.take_left' (by rw [l1, List.length_take]; omega)]
              · have : v2 = [] := by
                  have l2 := q2.length
                  rw [List.length_drop] at l2
                  exact List.eq_nil_of_length_eq_zero (by omega)
                subst this
                rw [List.append_nil]
                exact List.take_of_length_le (by rw [l1, List.length_take]; omega)
            have hv2 : ws.drop n.toNat = v2 := by
              have := List.take_append_drop n.toNat ws
              rw [hv1] at this
              exact List.append_cancel_left (this.trans ev2)
            have nk2 := (List.nodup_cons.mp nk).2
            rw [ek] at nk2
            have n3 := List.nodup_append.mp nk2
            have dj : ∀ x ∈ f2, x ∉ gk := fun x hx hz => (new x hx).2 i (by rw [hf1]; exact List.mem_cons_of_mem _ hz)
            refine ⟨b, ws, n, y, rfl, rfl, hb, by rw [rs1.length]; exact c1, c2, c3, ?_⟩
            obtain ⟨r3, k3⟩ := r2.relist (H0 := H) (us := ts.take n.toNat ++ [u] ++ ts.drop n.toNat) (ws := ws.take n.toNat ++ [y] ++ ws.drop n.toNat) (g' := k1 ++ f2 ++ k2) et1 ev1 hf1 (fun c hc => frs.grow c hc) (by
                rw [hv1, hv2]
                exact (q1.append (.one g2.vr)).append q2) (by
                refine List.nodup_append.mpr ⟨List.nodup_append.mpr ⟨n3.1, g2.nd, fun x hx d hd e => ?_⟩, n3.2.1, fun x hx d hd e => ?_⟩
                · subst e; exact dj x hd (by rw [ek]; exact List.mem_append_left _ hx)
                · subst e
                  rcases List.mem_append.mp hx with q | q
                  · exact n3.2.2 x q x hd rfl
                  · exact dj x q (by rw [ek]; exact List.mem_append_right _ hd)) (fun x hx => by
                rcases List.mem_append.mp hx with q | q
                · rcases List.mem_append.mp q with q | q
                  · exact r2.off i x (by rw [hf1, ek]; exact List.mem_cons_of_mem _ (List.mem_append_left _ q))
                  · exact g2.off x q
                · exact r2.off i x (by rw [hf1, ek]; exact List.mem_cons_of_mem _ (List.mem_append_right _ q))) (fun x hx => by
                rcases List.mem_append.mp hx with q | q
                · rcases List.mem_append.mp q with q | q
                  · exact .inl (by rw [ek]; exact List.mem_append_left _ q)
                  · exact .inr ⟨fr1.grow x (new x q).1, (new x q).2⟩
                · exact .inl (by rw [ek]; exact List.mem_append_right _ q))
            exact p .non B2 _ _ [] r3 (k3 _ B fp frs) (.pure vr_non)
end
end Mir
namespace Mir
open PySem PySem.Spec L2
def Else (ms : List Nat) (σ σ' : St) : Prop := σ'.length = σ.length ∧ ∀ j, j ∉ ms → σ'[j]?.join = σ[j]?.join
def PostG (Z : Option Zx) (K : PySem.W.Frag) (σ : St) (B H : Hp) (fp : Fp) (ms : List Nat) (o : Option Env) (Q : St → Hp → Prop) : Prop := match o with
  | some e => ∀ σ' fp', Rel Z K B H e σ' fp' → Fr ms B H fp B H fp' → Else ms σ σ' → Q σ' H
  | none => False
def MG (Z : Option Zx) (X : Cx) (tg : Expr) (ms : List Nat) (f : T → Env → Option Env) : Prop := ∃ g : TG, PG X tg g ∧ ∀ B H env σ fp t v Q, Rel Z X.K B H env σ fp → VR X.K B H t v [] → PostG Z X.K σ B H fp ms (f t env) Q → g v σ H Q
def canG (Z : Option Zx) (K : PySem.W.Frag) (ms : List Nat) (f : T → Env → Option Env) : TG := fun v σ H Q => ∃ B env fp t, Rel Z K B H env σ fp ∧ VR K B H t v [] ∧ PostG Z K σ B H fp ms (f t env) Q
section
variable {X : Cx} {W : WZ} {Z : Option Zx}
theorem MG.can {tg : Expr} {ms : List Nat} {f : T → Env → Option Env} (h : MG Z X tg ms f) : PG X tg (canG Z X.K ms f) := by
  obtain ⟨g, hg, hm⟩ := h
  exact ⟨fun pins s σ H v u Q I r ⟨B, env, fp, t, rl, vr, p⟩ => hg.run pins s σ H v u Q I r (hm B H env σ fp t v Q rl vr p)⟩
def gNm (i : Nat) : T → Env → Option Env := fun t e => some (e.set i (some t))
theorem mg_name {e : Expr} {i : Nat} (h : PG X e (gName i)) (nz : freeZ Z i = true := by rfl) : MG Z X e [i] (gNm i) := ⟨_, h, fun B H env σ fp t v Q r vr p => by
  obtain ⟨fp', r', k⟩ := r.store (i := i) (H0 := H) (.pure vr) nz
  exact p _ fp' r' (k [] B fp .refl) ⟨List.length_set, fun j hj => join_set_ne fun e => hj (by rw [e]; exact List.mem_cons_self ..)⟩⟩
def gNil0 : List T → Env → Option Env := fun ts e => match ts with
  | [] => some e
  | _ :: _ => none
def gCons0 (f : T → Env → Option Env) (g : List T → Env → Option Env) : List T → Env → Option Env := fun ts e => match ts with
  | [] => none
  | t :: r => (f t e).bind fun e1 => g r e1
section
variable {prog : Program} {w : World} {A : Around} {E : Value → Shared → Prop} {s : Shared}
end
def gTp (n : Nat) (f : List T → Env → Option Env) : T → Env → Option Env := fun t e => match t with
  | .tup ts => if ts.length = n then f ts e else none
  | .yt ts => if ts.length = n then f ts e else none
  | .lst ts => if ts.length = n then f ts e else none
  | _ => none
end
structure WalkT (K : PySem.W.Frag) (J : It) (its : List T) (live : Hp → Hp → Prop) : Prop where
  go : ∀ B H k, Same B H → live B H → k < its.length → J.go k H
  stop : ∀ B H, Same B H → live B H → J.stop its.length H
  yld : ∀ B H k t x H', Same B H → live B H → its[k]? = some t → J.yld k H x H' → ∃ B', Alo B H B' H' ∧ VR K B' H' t x []
def PostI (K : PySem.W.Frag) (mg : Str → Option Value) (W : WZ) (σ : St) (B H : Hp) (fp : Fp) (srcs ms : List Nat) (r : R (List T)) (P : It → Hp → Prop) : Prop := match r with
  | .ok its e => ∀ J B' H' fp' live, Rel W.z K B' H' e σ fp' → Fr ms B H fp B' H' fp' → WalkT K J its live → live B' H' → (∀ ms2 B2 H2 fp2, (∀ i ∈ srcs, i ∉ ms2) → Fr ms2 B' H' fp' B2 H2 fp2 → live B2 H2) → P J H'
  | .ex x e => ∀ cls d B' H' fp', Rel W.z K B' H' e σ fp' → Fr ms B H fp B' H' fp' → ExR K mg B' x cls d → W.w cls d σ H'
  | .no => False
def MI (X : Cx) (W : WZ) (tg iter : Expr) (srcs ms : List Nat) (m : A) : Prop := ∃ wi : TI, PI X tg iter wi ∧ ∀ B H env σ fp P, Rel W.z X.K B H env σ fp → PostI X.K X.mg W σ B H fp srcs ms (m env) P → wi σ H P
section
variable {X : Cx} {W : WZ}
def noOwns : List T → Bool
  | [] => true
  | t :: ts => noOwn t && noOwns ts
theorem noOwns_at : ∀ {ts : List T} {k : Nat} {t : T}, noOwns ts = true → ts[k]? = some t → noOwn t = true
  | [], _, _, _, e => by simp at e
  | u :: ts, 0, t, h, e => by
    simp at e
    subst e
    exact (Bool.and_eq_true_iff.mp h).1
  | u :: ts, k + 1, t, h, e => noOwns_at (k := k) (Bool.and_eq_true_iff.mp h).2 (by simpa using e)
def itsT : T → Option (List T)
  | .tup ts => some ts
  | .lst ts => some ts
  | .rol ts => some ts
  | .own ts => if noOwns ts then some ts else none
  | .str z => some (z.cps.toList.map fun c => .str ⟨#[c]⟩)
  | _ => none
theorem PI.or {tg e : Expr} {w w' : TI} (h : PI X tg e w) (h' : PI X tg e w') : PI X tg e (fun σ H P => w σ H P ∨ w' σ H P) :=
  ⟨fun pins s σ H P I q => q.elim (h.run pins s σ H P I) (h'.run pins s σ H P I)⟩
theorem VRs.nil_own {K : PySem.W.Frag} {B H : Hp} {t : T} {v : V} {g : List Addr} (h : VR K B H t v g) (n : noOwn t = true) : VR K B H t v [] := by
  have := h.noOwn n
  subst this
  exact h
theorem walk_seqL {K : PySem.W.Frag} {a : Addr} {ts : List T} (no : noOwns ts = true) {live : Hp → Hp → Prop} (hl : ∀ B H, Same B H → live B H → ∃ vs f, SqL K H a vs ∧ VRs K B H ts vs f) : WalkT K (Itl K a) ts live where
  go := fun B H k s l hk => by
    obtain ⟨vs, f, q, r⟩ := hl B H s l
    have : k < vs.length := by rw [r.length]; exact hk
    exact ⟨vs, vs[k], q, List.getElem?_eq_getElem this⟩
  stop := fun B H s l => by
    obtain ⟨vs, f, q, r⟩ := hl B H s l
    exact ⟨vs, q, by rw [r.length]; exact Nat.le_refl _⟩
  yld := fun B H k t x H' s l hk y => by
    obtain ⟨vs, f, q, r⟩ := hl B H s l
    obtain ⟨rfl, y⟩ := y
    obtain ⟨v, g, e1, vr, _⟩ := r.get hk
    have ex : x = v := Option.some.inj ((y vs q).symm.trans e1)
    subst ex
    exact ⟨B, .refl s, VRs.nil_own vr (noOwns_at no hk)⟩
theorem walk_seqT {K : PySem.W.Frag} {a : Addr} {ts : List T} {live : Hp → Hp → Prop} (hl : ∀ B H, Same B H → live B H → ∃ vs, SqT K H a vs ∧ VRs K B H ts vs []) : WalkT K (Itt K a) ts live where
  go := fun B H k s l hk => by
    obtain ⟨vs, q, r⟩ := hl B H s l
    have : k < vs.length := by rw [r.length]; exact hk
    exact ⟨vs, vs[k], q, List.getElem?_eq_getElem this⟩
  stop := fun B H s l => by
    obtain ⟨vs, q, r⟩ := hl B H s l
    exact ⟨vs, q, by rw [r.length]; exact Nat.le_refl _⟩
  yld := fun B H k t x H' s l hk y => by
    obtain ⟨vs, q, r⟩ := hl B H s l
    obtain ⟨rfl, y⟩ := y
    obtain ⟨v, g, e1, vr, sl⟩ := r.get hk
    have ex : x = v := Option.some.inj ((y vs q).symm.trans e1)
    subst ex
    have := List.sublist_nil.mp sl
    subst this
    exact ⟨B, .refl s, vr⟩
theorem VRs.noOwns_nil {K : PySem.W.Frag} {B H : Hp} : ∀ {ts : List T} {vs : List V} {f : List Addr}, VRs K B H ts vs f → noOwns ts = true → VRs K B H ts vs []
  | [], vs, f, h, _ => by unfold VRs at h ⊢; exact ⟨h.1, rfl⟩
  | t :: ts, vs, f, h, n => by
    obtain ⟨n1, n2⟩ := Bool.and_eq_true_iff.mp n
    unfold VRs at h ⊢
    obtain ⟨v, r, f1, f2, rfl, _, h1, h2⟩ := h
    exact ⟨v, r, [], [], rfl, rfl, VRs.nil_own h1 n1, h2.noOwns_nil n2⟩
theorem VRs.frozen_no {K : PySem.W.Frag} {B H : Hp} : ∀ {ts : List T} {vs : List V}, VRs K B H ts vs [] → noOwns ts = true
  | [], vs, h => rfl
  | t :: ts, vs, h => by
    unfold VRs at h
    obtain ⟨v, r, f1, f2, rfl, ef, h1, h2⟩ := h
    obtain ⟨rfl, rfl⟩ := List.append_eq_nil_iff.mp ef.symm
    refine Bool.and_eq_true_iff.mpr ⟨?_, h2.frozen_no⟩
    cases t <;> first
      | rfl
      | (unfold VR at h1; exact absurd rfl h1.1)
      | (unfold VR at h1; obtain ⟨a, vs, g, _, e, _⟩ := h1; cases e)
      | (unfold VR at h1; obtain ⟨a, vs, _, e, _⟩ := h1; cases e)
def itm (m : E) : A := fun e => (m e).bind fun t e1 => optR (itsT t) e1
theorem mi_seq {tg e : Expr} {srcs ms : List Nat} {m : E} (h : ME X W e srcs ms m) : MI X W tg e srcs ms (itm m) := by
  obtain ⟨t, ht, hm⟩ := h
  refine ⟨_, PI.or (pi_list (tg := tg) ht) (PI.or (pi_tup ht) (pi_str ht)), fun B H env σ fp P r p => ?_⟩
  unfold itm at p
  cases z : m env with
  | no => rw [z] at p; exact False.elim p
  | ex x e1 =>
    rw [z] at p
    refine .inl (hm B H env σ fp _ r ?_)
    rw [z]
    exact p
  | ok u e1 =>
    rw [z] at p
    replace p : PostI X.K X.mg W σ B H fp srcs ms (optR (itsT u) e1) P := p
    cases u with
    | tup ts =>
      refine .inr (.inl (hm B H env σ fp _ r ?_))
      rw [z]
      intro v B1 H1 fp1 f r1 fr1 g1
      have vr := g1.vr
      unfold VR at vr
      obtain ⟨rfl, a, vs, rfl, q, rs⟩ := vr
      refine ⟨a, rfl, ⟨vs, same_sqT r1.sub q⟩, p (Itt X.K a) B1 H1 fp1 (fun B H => SqX X.K B a vs ∧ VRs X.K B H ts vs []) r1 fr1 (walk_seqT fun B H s ⟨q, r⟩ => ⟨vs, same_sqT s q, r⟩) ⟨q, rs⟩ fun ms2 B2 H2 fp2 d fr2 => ?_⟩
      exact ⟨same_sqX fr2.b q, rs.mono fr2.b fun _ z => nomatch z⟩
    | lst ts =>
      refine .inl (hm B H env σ fp _ r ?_)
      rw [z]
      intro v B1 H1 fp1 f r1 fr1 g1
      have vr := g1.vr
      unfold VR at vr
      obtain ⟨rfl, a, vs, rfl, q, rs⟩ := vr
      refine ⟨a, rfl, ⟨vs, .of (r1.sub _ _ q)⟩, p (Itl X.K a) B1 H1 fp1 (fun B H => B a = some (.lst vs) ∧ VRs X.K B H ts vs []) r1 fr1 (walk_seqL rs.frozen_no fun B H s ⟨q, r⟩ => ⟨vs, [], .of (s _ _ q), r⟩) ⟨q, rs⟩ fun ms2 B2 H2 fp2 d fr2 => ?_⟩
      exact ⟨fr2.b _ _ q, rs.mono fr2.b fun _ z => nomatch z⟩
    | rol ts =>
      refine .inl (hm B H env σ fp _ r ?_)
      rw [z]
      intro v B1 H1 fp1 f r1 fr1 g1
      have vr := g1.vr
      unfold VR at vr
      obtain ⟨rfl, a, vs, rfl, q, rs⟩ := vr
      refine ⟨a, rfl, ⟨vs, r1.sub.seq q⟩, p (Itl X.K a) B1 H1 fp1 (fun B H => SqL X.K B a vs ∧ VRs X.K B H ts vs []) r1 fr1 (walk_seqL rs.frozen_no fun B H s ⟨q, r⟩ => ⟨vs, [], s.seq q, r⟩) ⟨q, rs⟩ fun ms2 B2 H2 fp2 d fr2 => ?_⟩
      exact ⟨fr2.b.seq q, rs.mono fr2.b fun _ z => nomatch z⟩
    | own ts =>
      replace p : PostI X.K X.mg W σ B H fp srcs ms (optR (if noOwns ts then some ts else none) e1) P := p
      by_cases no : noOwns ts = true
      · rw [if_pos no] at p
        refine .inl (hm B H env σ fp _ r ?_)
        rw [z]
        intro v B1 H1 fp1 f r1 fr1 g1
        have vr := g1.vr
        unfold VR at vr
        obtain ⟨a, vs, g, rfl, rfl, q, rs⟩ := vr
        refine ⟨a, rfl, ⟨vs, .of q⟩, p (Itl X.K a) B1 H1 fp1 (fun B H => H a = some (.lst vs) ∧ VRs X.K B H ts vs []) r1 fr1 (walk_seqL no fun B H s ⟨q, r⟩ => ⟨vs, [], .of q, r⟩) ⟨q, rs.noOwns_nil no⟩ fun ms2 B2 H2 fp2 d fr2 => ?_⟩
        have kp := g1.keep d r1 fr2
        unfold VR at kp
        obtain ⟨b, ws, g2, eb, eg, q2, rs2⟩ := kp
        injection eb with eb
        subst eb
        have eq : H2 a = some (.lst vs) := fr2.keep a _ q fun i hi hc => by
          rcases g1.new a (List.mem_cons_self ..) with ⟨_, n⟩ | ⟨j, hj, n⟩
          · exact n i hc
          · by_cases e : j = i
            · subst e; exact d j hj hi
            · exact r1.dj j i e a n hc
        rw [eq] at q2
        cases q2
        exact ⟨eq, rs2.noOwns_nil no⟩
      · rw [if_neg no] at p; exact False.elim p
    | str s =>
      refine .inr (.inr (hm B H env σ fp _ r ?_))
      rw [z]
      intro v B1 H1 fp1 f r1 fr1 g1
      have vr := g1.vr
      unfold VR at vr
      obtain ⟨rfl, rfl⟩ := vr
      refine ⟨s, rfl, p (Its s) B1 H1 fp1 (fun _ _ => True) r1 fr1 ⟨fun B H k _ _ hk => ?_, fun B H _ _ => ?_, fun B H k t x H' s2 _ hk y => ?_⟩ trivial fun _ _ _ _ _ _ => trivial⟩
      · rw [List.length_map, Array.length_toList] at hk
        exact hk
      · show s.cps.size ≤ _
        rw [List.length_map, Array.length_toList]
        exact Nat.le_refl _
      · obtain ⟨rfl, c, ec, rfl⟩ := y
        rw [List.getElem?_map, Array.getElem?_toList, ec] at hk
        cases hk
        exact ⟨B, .refl s2, vr_str⟩
    | _ => exact False.elim p
def rngT : List T → Option (List T)
  | [.int j] => if j.natAbs < 4611686018427387904 then some ((List.range j.toNat).map fun k => .int (0 + (k : Nat))) else none
  | [.int i, .int j] => if i.natAbs < 4611686018427387904 ∧ j.natAbs < 4611686018427387904 then some ((List.range (j - i).toNat).map fun k => .int (i + (k : Nat))) else none
  | _ => none
def rng (m : A) : A := fun e => (m e).bind fun ts e1 => optR (rngT ts) e1
theorem walk_rng {K : PySem.W.Frag} {lo : Int} {n : Nat} : WalkT K (Itr lo n) ((List.range n).map fun k => .int (lo + (k : Nat))) (fun _ _ => True) where
  go := fun B H k _ _ hk => by
    rw [List.length_map, List.length_range] at hk
    exact hk
  stop := fun B H _ _ => by
    show n ≤ _
    rw [List.length_map, List.length_range]
    exact Nat.le_refl _
  yld := fun B H k t x H' s _ hk y => by
    obtain ⟨rfl, rfl⟩ := y
    rw [List.getElem?_map] at hk
    cases z : (List.range n)[k]? with
    | none => rw [z] at hk; cases hk
    | some j =>
      rw [z] at hk
      cases hk
      have := List.getElem?_eq_some_iff.mp z
      obtain ⟨h1, h2⟩ := this
      rw [List.getElem_range] at h2
      subst h2
      exact ⟨B, .refl s, vr_int⟩
theorem vrs_ints1 {K : PySem.W.Frag} {B H : Hp} {i : Int} {vs : List V} {f : List Addr} (h : VRs K B H [.int i] vs f) : vs = [.int i] := by
  unfold VRs VRs VR at h
  obtain ⟨v, r, f1, f2, rfl, _, ⟨rfl, _⟩, rfl, _⟩ := h
  rfl
theorem mi_rng1 {tg e : Expr} {es : List Expr} {srcs ms : List Nat} {m : A} (pi : ∀ {ta : TA}, PA X es ta → PI X tg e (iRng1 ta)) (h : MA X W es srcs ms m) (one : ∀ B H env σ fp, Rel W.z X.K B H env σ fp → ∀ ts e1, m env = .ok ts e1 → ts.length = 1) : MI X W tg e [] ms (rng m) := by
  obtain ⟨t, ht, hm⟩ := h
  refine ⟨_, pi ht, fun B H env σ fp P r p => ?_⟩
  refine hm B H env σ fp _ r ?_
  have o1 := one B H env σ fp r
  unfold rng at p
  cases z : m env with
  | no => rw [z] at p; exact p
  | ex x e1 => rw [z] at p; exact p
  | ok ts e1 =>
    rw [z] at p
    intro vs B1 H1 fp1 f r1 fr1 g1
    replace p : PostI X.K X.mg W σ B H fp [] ms (optR (rngT ts) e1) P := p
    have l1 := o1 ts e1 z
    match ts, l1, p, g1 with
    | [u], _, p, g1 =>
      cases u with
      | int j =>
        replace p : PostI X.K X.mg W σ B H fp [] ms (optR (if j.natAbs < 4611686018427387904 then some ((List.range j.toNat).map fun k => .int (0 + (k : Nat))) else none) e1) P := p
        by_cases c : j.natAbs < 4611686018427387904
        · rw [if_pos c] at p
          exact ⟨j, vrs_ints1 g1.vr, by omega, by omega, p _ B1 H1 fp1 _ r1 fr1 walk_rng trivial fun _ _ _ _ _ _ => trivial⟩
        · rw [if_neg c] at p; exact False.elim p
      | _ => exact False.elim p
def forL (f : T → Env → Option Env) (b : S) : List T → Env → O
  | [], e => .nx e
  | t :: ts, e => match f t e with
    | none => .no
    | some e1 => match b e1 with
      | .nx e2 => forL f b ts e2
      | .ct e2 => forL f b ts e2
      | .bk e2 => .nx e2
      | o => o
def forS (it : A) (f : T → Env → Option Env) (b : S) : S := fun e => O.of (it e) fun its e1 => forL f b its e1
theorem ms_for {tg iter : Expr} {body : List Stmt} {ks srcs m0 m1 rs m2 : List Nat} {it : A} {f : T → Env → Option Env} {b : S} {pos : Pos} (hp : PassesOwn (model X.prog X.w) X.A X.env X.xe) (hc : X.calm = true) (hi : MI X W tg iter srcs m0 it) (hg : MG W.z X tg m1 f) (hb : MB X W ks body rs m2 b)
    (d : ∀ i ∈ srcs, i ∉ m1 ++ m2) (nk : ∀ i ∈ m1, i ∉ ks) (hf : ∀ x, foldedSetIterable iter X.env x = pure x := by intro _; rfl) : MS X W ks (.For tg iter body [] pos) rs (m0 ++ (m1 ++ m2)) (forS it f b) := by
  obtain ⟨wi, h0, k0⟩ := hi
  obtain ⟨g, h1, k1⟩ := hg
  obtain ⟨t, h2, k2⟩ := hb
  refine ⟨_, ps_for hp hc h0 h1 h2 hf, fun B H env σ fp D r p => ?_⟩
  refine k0 B H env σ fp _ r ?_
  unfold forS at p
  cases z : it env with
  | no => rw [z] at p; exact p
  | ex x e1 => rw [z] at p; exact fun cls d B' H' fp' r' fr => p cls d σ B' H' fp' r' (fr.weak fun i hi => List.mem_append_left _ hi) .refl
  | ok its e1 =>
    rw [z] at p
    intro J B1 H1 fp1 live r1 fr1 wk lv kp
    replace p : PostS X.K X.mg W ks σ B1 H1 fp1 rs (m1 ++ m2) (forL f b its e1) D := PostS.later p fr1 .refl
    refine ⟨fun i m σ2 H => m = its.length - i ∧ i ≤ its.length ∧ ∃ B2 e2 fp2, Rel W.z X.K B2 H e2 σ2 fp2 ∧ Fr (m1 ++ m2) B1 H1 fp1 B2 H fp2 ∧ Keep ks σ σ2 ∧ forL f b its e1 = forL f b (its.drop i) e2, ⟨its.length, by simp, Nat.zero_le _, B1, e1, fp1, r1, .refl, .refl, by rw [List.drop_zero]⟩, ?_⟩
    rintro i m σ2 H ⟨rfl, hi, B2, e2, fp2, r2, fr2, kk2, eq⟩
    have lv2 := kp _ B2 H fp2 d fr2
    by_cases hlt : i < its.length
    · refine .inr ⟨wk.go B2 H i r2.sub lv2 hlt, fun σ' H' => ∃ B3 e3 fp3, Rel W.z X.K B3 H' e3 σ' fp3 ∧ Fr (m1 ++ m2) B1 H1 fp1 B3 H' fp3 ∧ Keep ks σ σ' ∧ forL f b its e1 = forL f b (its.drop (i + 1)) e3, fun σ' H' ⟨B3, e3, fp3, r3, fr3, kk3, eq3⟩ => ⟨its.length - (i + 1), by omega, rfl, by omega, B3, e3, fp3, r3, fr3, kk3, eq3⟩, fun x H' y => ?_⟩
      obtain ⟨B3, al, vr⟩ := wk.yld B2 H i its[i] x H' r2.sub lv2 (List.getElem?_eq_getElem hlt) y
      have r3 := r2.alo al
      have fr3 : Fr (m1 ++ m2) B1 H1 fp1 B3 H' fp2 := by
        have := fr2.trans (al.fr (ms := []) (fp := fp2))
        rw [List.append_nil] at this
        exact this
      have ed : its.drop i = its[i] :: its.drop (i + 1) := List.drop_eq_getElem_cons hlt
      rw [ed] at eq
      refine k1 B3 H' e2 σ2 fp2 its[i] x _ r3 vr ?_
      have eq' : forL f b its e1 = (match f its[i] e2 with
        | none => .no
        | some e1 => match b e1 with
          | .nx e2 => forL f b (its.drop (i + 1)) e2
          | .ct e2 => forL f b (its.drop (i + 1)) e2
          | .bk e2 => .nx e2
          | o => o) := eq
      cases z1 : f its[i] e2 with
      | none => rw [z1] at eq'; dsimp only at eq'; rw [eq'] at p; exact p
      | some e3 =>
        rw [z1] at eq'
        dsimp only at eq'
        intro σ4 fp4 r4 fr4 el4
        have kk4 : Keep ks σ σ4 := kk2.trans fun j hj => el4.2 j fun z => nk j z hj
        have fr5 : Fr (m1 ++ m2) B1 H1 fp1 B3 H' fp4 := (fr3.trans fr4).weak fun j hj => by
          rcases List.mem_append.mp hj with q | q
          · exact q
          · exact List.mem_append_left _ q
        refine k2 B3 H' e3 σ4 fp4 _ r4 ?_
        have tr : ∀ {B' H' : Hp} {fp' : Fp} {Hx : Hp}, Fr m2 B3 Hx fp4 B' H' fp' → Fr (m1 ++ m2) B1 H1 fp1 B3 Hx fp4 → Fr (m1 ++ m2) B1 H1 fp1 B' H' fp' := fun a c => (c.trans a).weak fun j hj => by
          rcases List.mem_append.mp hj with q | q
          · exact q
          · exact List.mem_append_right _ q
        cases z2 : b e3 with
        | nx e4 =>
          rw [z2] at eq'
          exact fun σ' B' H2 fp' r' fr' kk' => ⟨B', e4, fp', r', tr fr' fr5, kk4.trans kk', eq'⟩
        | ct e4 =>
          rw [z2] at eq'
          exact fun σ' B' H2 fp' r' fr' kk' => ⟨B', e4, fp', r', tr fr' fr5, kk4.trans kk', eq'⟩
        | bk e4 =>
          rw [z2] at eq'
          dsimp only at eq'
          rw [eq'] at p
          exact fun σ' B' H2 fp' r' fr' kk' => p σ' B' H2 fp' r' (tr fr' fr5) (kk4.trans kk')
        | rt u e4 =>
          rw [z2] at eq'
          dsimp only at eq'
          rw [eq'] at p
          exact fun v σ' B' H2 fp' k r' fr' kk' g => p v σ' B' H2 fp' k r' (tr fr' fr5) (kk4.trans kk') ⟨g.vr, g.nd, g.off, new_pre g.new fr5⟩
        | ex x e4 =>
          rw [z2] at eq'
          dsimp only at eq'
          rw [eq'] at p
          exact fun cls dd σ' B' H2 fp' r' fr' kk' => p cls dd σ' B' H2 fp' r' (tr fr' fr5) (kk4.trans kk')
        | no =>
          rw [z2] at eq'
          dsimp only at eq'
          rw [eq'] at p
          exact p
    · have e : i = its.length := by omega
      subst e
      rw [List.drop_length] at eq
      have eq' : forL f b its e1 = .nx e2 := eq
      rw [eq'] at p
      exact .inl ⟨wk.stop B2 H r2.sub lv2, p σ2 B2 H fp2 r2 fr2 kk2⟩
end
end Mir
namespace Mir
open PySem PySem.Spec L2
theorem consA_len {a : E} {r : A} {e e1 : Env} {ts : List T} {n : Nat} (hr : ∀ e ts e1, r e = .ok ts e1 → ts.length = n) (h : consA a r e = .ok ts e1) : ts.length = n + 1 := by
  unfold consA at h
  cases z : a e with
  | no => rw [z] at h; cases h
  | ex x e2 => rw [z] at h; cases h
  | ok u e2 =>
    rw [z] at h
    replace h : ((r e2).bind fun xs e3 => R.ok (u :: xs) e3) = .ok ts e1 := h
    cases z2 : r e2 with
    | no => rw [z2] at h; cases h
    | ex x e3 => rw [z2] at h; cases h
    | ok us e3 =>
      rw [z2] at h
      cases h
      show us.length + 1 = n + 1
      rw [hr _ _ _ z2]
theorem nilA_len {e e1 : Env} {ts : List T} (h : nilA e = .ok ts e1) : ts.length = 0 := by
  cases h; rfl
theorem consA_len1 {a : E} {e e1 : Env} {ts : List T} (h : consA a nilA e = .ok ts e1) : ts.length = 1 := consA_len (fun _ _ _ => nilA_len) h
section
variable {X : Cx} {W : WZ}
theorem mi_range1 {tg e a : Expr} {srcs ms : List Nat} {m : E} (pi : ∀ {ta : TA}, PA X [a] ta → PI X tg e (iRng1 ta)) (h : ME X W a srcs ms m) (hs : starEach [a] X.env = (false, eval a X.env) :: starEach [] X.env := by rfl) : MI X W tg e [] (ms ++ []) (rng (consA m nilA)) :=
  mi_rng1 pi (ma_cons h ma_nil (fun _ _ z => nomatch z) hs) fun _ _ _ _ _ _ _ _ h => consA_len1 h
end
def wipeE (e : Env) : List Nat → Env
  | [] => e
  | v :: vs => (wipeE e vs).set v none
def unwipe (e e' : Env) : List Nat → Env
  | [] => e'
  | v :: vs => (unwipe e e' vs).set v (e[v]?.join)
def calmAt (e : Env) (vs : List Nat) : Bool := vs.all fun v => match e[v]?.join with
  | some t => noOwn t
  | none => true
theorem wipeE_length (e : Env) : ∀ vs, (wipeE e vs).length = e.length
  | [] => rfl
  | v :: vs => by unfold wipeE; rw [List.length_set, wipeE_length e vs]
theorem unwipe_length (e e' : Env) : ∀ vs, (unwipe e e' vs).length = e'.length
  | [] => rfl
  | v :: vs => by unfold unwipe; rw [List.length_set, unwipe_length e e' vs]
theorem wipe_at {α : Type} {l : List (Option α)} {i v : Nat} : (l.set v none)[i]?.join = if i = v then none else l[i]?.join := by
  by_cases h : i = v
  · subst h
    rw [if_pos rfl]
    by_cases hl : i < l.length
    · exact join_set_at hl
    · rw [List.set_eq_of_length_le (by omega), List.getElem?_eq_none (by omega)]; rfl
  · rw [if_neg h, join_set_ne h]
theorem wipeE_at (e : Env) (i : Nat) : ∀ vs : List Nat, (wipeE e vs)[i]?.join = if i ∈ vs then none else e[i]?.join
  | [] => by simp [wipeE]
  | v :: vs => by
    unfold wipeE
    rw [wipe_at, wipeE_at e i vs]
    by_cases h : i = v
    · subst h; simp
    · by_cases h2 : i ∈ vs <;> simp [h, h2]
theorem wipeS_at (σ : St) (i : Nat) : ∀ vs : List Nat, (wipe σ vs)[i]?.join = if i ∈ vs then none else σ[i]?.join
  | [] => by simp [wipe]
  | v :: vs => by
    unfold wipe
    rw [wipe_at, wipeS_at σ i vs]
    by_cases h : i = v
    · subst h; simp
    · by_cases h2 : i ∈ vs <;> simp [h, h2]
theorem unwipe_at (e e' : Env) (hl : e.length = e'.length) (i : Nat) : ∀ vs : List Nat, (unwipe e e' vs)[i]?.join = if i ∈ vs then e[i]?.join else e'[i]?.join
  | [] => by simp [unwipe]
  | v :: vs => by
    unfold unwipe
    by_cases h : i = v
    · subst h
      by_cases hi : i < e'.length
      · rw [join_set_at (by rw [unwipe_length]; exact hi)]; simp
      · rw [List.set_eq_of_length_le (by rw [unwipe_length]; omega), unwipe_at e e' hl i vs]
        have z1 : e[i]?.join = none := by rw [List.getElem?_eq_none (by omega)]; rfl
        have z2 : e'[i]?.join = none := by rw [List.getElem?_eq_none (by omega)]; rfl
        rw [z1, z2]; simp
    · rw [join_set_ne h, unwipe_at e e' hl i vs]
      by_cases h2 : i ∈ vs <;> simp [h, h2]
section
variable {Z : Option Zx} {K : PySem.W.Frag} {B B' H H' : Hp} {env env' : Env} {σ : St} {fp fp' : Fp} {vs : List Nat}
theorem freeZ_all {z : Zx} (h : vs.all (freeZ (some z)) = true) : z.i ∉ vs := fun m => freeZ_ne (List.all_eq_true.mp h _ m) rfl
theorem Rel.calm (r : Rel Z K B H env σ fp) (h : calmAt env vs = true) : ∀ v ∈ vs, fp v = [] := fun v hv => by
  have q := List.all_eq_true.mp h v hv
  have s := r.at_ v
  cases z : env[v]?.join with
  | none => rw [z] at s; exact s
  | some t =>
    rw [z] at s q
    obtain ⟨u, _, vr⟩ := s
    exact vr.noOwn q
theorem Rel.wipe (r : Rel Z K B H env σ fp) (h : ∀ v ∈ vs, fp v = []) (nv : vs.all (freeZ Z) = true) : Rel Z K B H (wipeE env vs) (L2.wipe σ vs) fp where
  xc := r.xc.mono (Same.refl B) (fun z e q => by rw [wipeE_at]; subst e; rw [if_neg (freeZ_all nv)]; exact q) (fun z e _ q => by rw [wipeS_at]; subst e; rw [if_neg (freeZ_all nv)]; exact q)
  sub := r.sub
  len := by rw [wipeE_length, wipe_length]; exact r.len
  at_ := fun i => by
    rw [wipeE_at, wipeS_at]
    by_cases hi : i ∈ vs
    · rw [if_pos hi]; exact h i hi
    · rw [if_neg hi, if_neg hi]; exact r.at_ i
  nd := r.nd
  dj := r.dj
  off := r.off
def hid (fp : Fp) (vs : List Nat) : Fp := fun j => if j ∈ vs then [] else fp j
def shw (fp1 : Fp) (vs : List Nat) (fp : Fp) : Fp := fun j => if j ∈ vs then fp1 j else fp j
theorem hid_sub {a : Addr} {j : Nat} (h : a ∈ hid fp vs j) : a ∈ fp j ∧ j ∉ vs := by
  unfold hid at h
  by_cases c : j ∈ vs
  · rw [if_pos c] at h; cases h
  · rw [if_neg c] at h; exact ⟨h, c⟩
theorem Rel.hide (r : Rel Z K B H env σ fp) (nv : vs.all (freeZ Z) = true) : Rel Z K B H (wipeE env vs) (L2.wipe σ vs) (hid fp vs) where
  xc := r.xc.mono (Same.refl B) (fun z e q => by rw [wipeE_at]; subst e; rw [if_neg (freeZ_all nv)]; exact q) (fun z e _ q => by rw [wipeS_at]; subst e; rw [if_neg (freeZ_all nv)]; exact q)
  sub := r.sub
  len := by rw [wipeE_length, wipe_length]; exact r.len
  at_ := fun i => by
    rw [wipeE_at, wipeS_at]
    unfold hid
    by_cases hi : i ∈ vs
    · rw [if_pos hi, if_pos hi, if_pos hi]; exact rfl
    · rw [if_neg hi, if_neg hi, if_neg hi]; exact r.at_ i
  nd := fun i => by
    unfold hid
    by_cases hi : i ∈ vs
    · rw [if_pos hi]; exact List.nodup_nil
    · rw [if_neg hi]; exact r.nd i
  dj := fun i j n a ha hb => r.dj i j n a (hid_sub ha).1 (hid_sub hb).1
  off := fun i a ha => r.off i a (hid_sub ha).1
theorem Fr.show_ {ms : List Nat} {fp1 : Fp} (f : Fr ms B H (hid fp1 vs) B' H' fp') : Fr ms B H fp1 B' H' (shw fp1 vs fp') where
  b := f.b
  keep := fun a o h n => f.keep a o h fun i hi z => n i hi (hid_sub z).1
  grow := f.grow
  fresh := fun a h => by
    rcases f.fresh a h with q | q | ⟨i, hi, q⟩
    · exact .inl q
    · exact .inr (.inl q)
    · exact .inr (.inr ⟨i, hi, (hid_sub q).1⟩)
  fps := fun j hj => by
    unfold shw
    by_cases c : j ∈ vs
    · rw [if_pos c]
    · rw [if_neg c, f.fps j hj]
      unfold hid
      rw [if_neg c]
  fpm := fun j a ha => by
    unfold shw at ha
    by_cases c : j ∈ vs
    · rw [if_pos c] at ha; exact .inl ha
    · rw [if_neg c] at ha
      rcases f.fpm j a ha with q | q
      · exact .inl (hid_sub q).1
      · exact .inr q
theorem Rel.there_ {v : Nat} {a : Addr} (r : Rel Z K B H env σ fp) (ha : a ∈ fp v) : ∃ o, H a = some o := by
  obtain ⟨o, ho, _⟩ := r.cell ha
  exact ⟨o, ho⟩
theorem Rel.show_ {ms : List Nat} {fp1 : Fp} (r : Rel Z K B H env σ fp1) (f : Fr ms B H (hid fp1 vs) B' H' fp') (r' : Rel Z K B' H' env' (L2.wipe σ vs) fp') (nv : vs.all (freeZ Z) = true) : Rel Z K B' H' (Mir.unwipe env env' vs) σ (shw fp1 vs fp') where
  xc := r'.xc.mono (Same.refl B') (fun z e q => by
      subst e
      rw [unwipe_at env env' (by rw [r.len, r'.len, wipe_length]), if_neg (freeZ_all nv)]; exact q)
    (fun z e _ q => by
      subst e
      rw [wipeS_at, if_neg (freeZ_all nv)] at q; exact q)
  sub := r'.sub
  len := by
    rw [unwipe_length, r'.len, wipe_length]
  at_ := fun i => by
    have hl : env.length = env'.length := by rw [r.len, r'.len, wipe_length]
    rw [unwipe_at env env' hl]
    unfold shw
    by_cases hi : i ∈ vs
    · rw [if_pos hi, if_pos hi]
      refine (r.at_ i).mono f.b fun a ha o ho => f.keep a o ho fun j _ z => ?_
      obtain ⟨z1, z2⟩ := hid_sub z
      by_cases c : i = j
      · subst c; exact z2 hi
      · exact r.dj i j c a ha z1
    · rw [if_neg hi, if_neg hi]
      have q := r'.at_ i
      rw [wipeS_at, if_neg hi] at q
      exact q
  nd := fun i => by
    unfold shw
    by_cases hi : i ∈ vs
    · rw [if_pos hi]; exact r.nd i
    · rw [if_neg hi]; exact r'.nd i
  dj := fun i j n a ha hb => by
    have key : ∀ v ∈ vs, ∀ a ∈ fp1 v, ∀ j, a ∉ fp' j := fun v hv a ha j hj => by
      obtain ⟨o, ho⟩ := r.there_ ha
      rcases f.fpm j a hj with q | q
      · obtain ⟨q1, q2⟩ := hid_sub q
        by_cases c : v = j
        · subst c; exact q2 hv
        · exact r.dj v j c a ha q1
      · rw [ho] at q; cases q
    unfold shw at ha hb
    by_cases hi : i ∈ vs
    · rw [if_pos hi] at ha
      by_cases hj : j ∈ vs
      · rw [if_pos hj] at hb; exact r.dj i j n a ha hb
      · rw [if_neg hj] at hb; exact key i hi a ha j hb
    · rw [if_neg hi] at ha
      by_cases hj : j ∈ vs
      · rw [if_pos hj] at hb; exact key j hj a hb i ha
      · rw [if_neg hj] at hb; exact r'.dj i j n a ha hb
  off := fun i a ha => by
    unfold shw at ha
    by_cases hi : i ∈ vs
    · rw [if_pos hi] at ha
      obtain ⟨o, ho⟩ := r.there_ ha
      cases q : B' a with
      | none => rfl
      | some u =>
        rcases f.fresh a (by rw [q]; exact fun z => nomatch z) with z | z | ⟨j, _, z⟩
        · exact absurd (r.off i a ha) z
        · rw [ho] at z; cases z
        · obtain ⟨z1, z2⟩ := hid_sub z
          by_cases c : i = j
          · subst c; exact absurd hi z2
          · exact absurd z1 (r.dj i j c a ha)
    · rw [if_neg hi] at ha; exact r'.off i a ha
theorem Rel.unwipe (r : Rel Z K B H env σ fp) (h : ∀ v ∈ vs, fp v = []) (s : Same B B') (r' : Rel Z K B' H' env' (L2.wipe σ vs) fp') (h' : ∀ v ∈ vs, fp' v = []) (nv : vs.all (freeZ Z) = true) : Rel Z K B' H' (Mir.unwipe env env' vs) σ fp' where
  xc := r'.xc.mono (Same.refl B') (fun z e q => by
      subst e
      rw [unwipe_at env env' (by rw [r.len, r'.len, wipe_length]), if_neg (freeZ_all nv)]; exact q)
    (fun z e _ q => by
      subst e
      rw [wipeS_at, if_neg (freeZ_all nv)] at q; exact q)
  sub := r'.sub
  len := by
    rw [unwipe_length, r'.len, wipe_length]
  at_ := fun i => by
    have hl : env.length = env'.length := by rw [r.len, r'.len, wipe_length]
    rw [unwipe_at env env' hl]
    by_cases hi : i ∈ vs
    · rw [if_pos hi, h' i hi]
      have q := r.at_ i
      rw [h i hi] at q
      exact q.mono s fun _ z => nomatch z
    · rw [if_neg hi]
      have q := r'.at_ i
      rw [wipeS_at, if_neg hi] at q
      exact q
  nd := r'.nd
  dj := r'.dj
  off := r'.off
end
def lcL (f : T → Env → Option Env) (tt : C) (te : E) (vs : List Nat) : List T → List T → Env → R (List T)
  | [], acc, e => .ok acc e
  | t :: its, acc, e => match f t e with
    | none => .no
    | some e1 => match tt e1 with
      | .ok b e2 => if b then (match te e2 with
        | .ok y e3 => if acc.length < sizeLine ∧ calmAt e3 vs = true then lcL f tt te vs its (acc ++ [y]) (wipeE e3 vs) else .no
        | _ => .no) else if calmAt e2 vs = true then lcL f tt te vs its acc (wipeE e2 vs) else .no
      | _ => .no
def calmL (_ : Env) (_ : List Nat) : Bool := true
def lcM (it : A) (f : T → Env → Option Env) (tt : C) (te : E) (vs : List Nat) : E := fun e => (it e).bind fun its e1 =>
  if calmL e1 vs = true then (lcL f tt te vs its [] (wipeE e1 vs)).bind fun ts e2 => .ok (.own ts) (unwipe e1 e2 vs) else .no
abbrev W0 (Z : Option Zx) : WZ := ⟨fun _ _ _ _ => False, Z⟩
structure AccAt (K : PySem.W.Frag) (H1 : Hp) (D : Addr) (B H : Hp) (fp : Fp) (acc : List T) (ws : List V) (g : List Addr) : Prop where
  at_ : H D = some (.lst ws)
  vr : VRs K B H acc ws g
  nd : (D :: g).Nodup
  new : ∀ a ∈ D :: g, H1 a = none ∧ B a = none ∧ ∀ j, a ∉ fp j
theorem AccAt.there {K : PySem.W.Frag} {H1 : Hp} {D : Addr} {B H : Hp} {fp : Fp} {acc : List T} {ws : List V} {g : List Addr} (l : AccAt K H1 D B H fp acc ws g) : ∀ c ∈ D :: g, ∃ o, H c = some o := fun c hc => by
  rcases List.mem_cons.mp hc with rfl | hc
  · exact ⟨_, l.at_⟩
  · obtain ⟨o, h, _⟩ := VRs.cells l.vr c hc
    exact ⟨o, h⟩
theorem AccAt.move {K : PySem.W.Frag} {H1 : Hp} {D : Addr} {B H B' H' : Hp} {fp fp' : Fp} {acc : List T} {ws : List V} {g : List Addr} {ms : List Nat} (l : AccAt K H1 D B H fp acc ws g) (a : Fr ms B H fp B' H' fp') : AccAt K H1 D B' H' fp' acc ws g := by
  have kp : ∀ c ∈ D :: g, ∀ o, H c = some o → H' c = some o := fun c hc o h => a.keep c o h fun i _ => (l.new c hc).2.2 i
  refine ⟨kp D (List.mem_cons_self ..) _ l.at_, l.vr.mono a.b fun c hc => kp c (List.mem_cons_of_mem _ hc), l.nd, fun c hc => ⟨(l.new c hc).1, ?_, fun j hj => ?_⟩⟩
  · obtain ⟨o, ho⟩ := l.there c hc
    cases q : B' c with
    | none => rfl
    | some u =>
      rcases a.fresh c (by rw [q]; exact fun z => nomatch z) with h | h | ⟨i, hi, h⟩
      · exact absurd (l.new c hc).2.1 h
      · rw [ho] at h; cases h
      · exact absurd h ((l.new c hc).2.2 i)
  · obtain ⟨o, ho⟩ := l.there c hc
    rcases a.fpm j c hj with h | h
    · exact (l.new c hc).2.2 j h
    · rw [ho] at h; cases h
structure LcSt (Z : Option Zx) (K : PySem.W.Frag) (B1 H1 : Hp) (fp1 : Fp) (σ : St) (ms vs : List Nat) (D : Addr) (B H : Hp) (e : Env) (fp : Fp) (acc : List T) : Prop where
  rel : Rel Z K B H e (L2.wipe σ vs) fp
  fr : Fr ms B1 H1 fp1 B H fp
  wp : ∀ v ∈ vs, fp v = []
  acc : ∃ ws g, AccAt K H1 D B H fp acc ws g
theorem wipe_else {σ σ2 : St} {ms vs : List Nat} (h : Else ms (L2.wipe σ vs) σ2) (hm : ∀ i ∈ ms, i ∈ vs) : L2.wipe σ2 vs = L2.wipe σ vs := by
  have hl : σ2.length = σ.length := by rw [h.1, wipe_length]
  refine List.ext_getElem? fun i => ?_
  by_cases hi : i < σ.length
  · have l1 : i < (L2.wipe σ2 vs).length := by rw [wipe_length, hl]; exact hi
    have l2 : i < (L2.wipe σ vs).length := by rw [wipe_length]; exact hi
    have a := wipeS_at σ2 i vs
    have b := wipeS_at σ i vs
    rw [List.getElem?_eq_getElem l1] at a ⊢
    rw [List.getElem?_eq_getElem l2] at b ⊢
    have a : (L2.wipe σ2 vs)[i] = _ := a
    have b : (L2.wipe σ vs)[i] = _ := b
    rw [a, b]
    by_cases h2 : i ∈ vs
    · simp [h2]
    · rw [if_neg h2, if_neg h2, h.2 i (fun z => h2 (hm i z)), wipeS_at, if_neg h2]
  · rw [List.getElem?_eq_none (by rw [wipe_length, hl]; omega), List.getElem?_eq_none (by rw [wipe_length]; omega)]
theorem Rel.wipe2 {Z : Option Zx} {K : PySem.W.Frag} {B H : Hp} {env : Env} {σ σ2 : St} {fp : Fp} {vs : List Nat} (r : Rel Z K B H env σ2 fp) (h : calmAt env vs = true) (e : L2.wipe σ2 vs = L2.wipe σ vs) (nv : vs.all (freeZ Z) = true) : Rel Z K B H (wipeE env vs) (L2.wipe σ vs) fp := by
  rw [← e]
  exact r.wipe (r.calm h) nv
section
variable {X : Cx} {W : WZ}
theorem lc_readsAt {mg : Str → Option Value} {K : PySem.W.Frag} {srcs m0 m1 m2 m3 vs : List Nat} {it : A} {f : T → Env → Option Env} {tc : C} {te : E} {wi : TI} {B H : Hp} {env : Env} {σ : St} {fp : Fp} (hi : ∀ P, PostI K mg W σ B H fp srcs m0 (it env) P → wi σ H P)
    (d : ∀ i ∈ srcs, i ∉ m1 ++ (m2 ++ m3)) (d1 : ∀ i ∈ m1, i ∈ vs) (nv : vs.all (freeZ W.z) = true) :
    ∀ Q, Rel W.z K B H env σ fp → PostE K mg W σ B H fp [] (m0 ++ (m1 ++ (m2 ++ m3))) (lcM it f tc te vs env) Q → tLc wi (canG W.z K m1 f) (canC K mg (W0 W.z) m2 tc) (canE K mg (W0 W.z) [] m3 te) vs σ H Q := by
  intro Q r p
  refine hi _ ?_
  unfold lcM at p
  cases z : it env with
  | no => rw [z] at p; exact p
  | ex x e1 => rw [z] at p; exact fun cls d B' H' fp' r' fr => p cls d B' H' fp' r' (fr.weak fun i hi => List.mem_append_left _ hi)
  | ok its e1 =>
    rw [z] at p
    replace p : PostE K mg W σ B H fp [] (m0 ++ (m1 ++ (m2 ++ m3))) (if calmL e1 vs = true then (lcL f tc te vs its [] (wipeE e1 vs)).bind fun ts e2 => .ok (.own ts) (unwipe e1 e2 vs) else .no) Q := p
    intro J B1 H1 fp1 live r1 fr1 wk lv kp D hD
    by_cases hc : calmL e1 vs = true
    · rw [if_pos hc] at p
      have cm : ∀ v ∈ vs, hid fp1 vs v = [] := fun v hv => if_pos hv
      have rw1 := r1.hide nv
      have fD : ∀ j, D ∉ fp1 j := fun j hj => by
        obtain ⟨o, ho, _⟩ := r1.cell hj
        rw [hD] at ho; cases ho
      have bD : B1 D = none := by
        cases q : B1 D with
        | none => rfl
        | some o => rw [r1.sub D o q] at hD; cases hD
      have al : Alo B1 H1 B1 (upd H1 D (.lst [])) := ⟨Same.refl _, upd_sameH hD, fun c hc => .inl hc, fun c o hc => upd_sameH hD c o (r1.sub c o hc)⟩
      refine ⟨fun i m H => m = its.length - i ∧ i ≤ its.length ∧ ∃ B2 e2 fp2 acc, LcSt W.z K B1 H1 (hid fp1 vs) σ (m1 ++ (m2 ++ m3)) vs D B2 H e2 fp2 acc ∧ lcL f tc te vs its [] (wipeE e1 vs) = lcL f tc te vs (its.drop i) acc e2,
        ⟨its.length, by simp, Nat.zero_le _, B1, wipeE e1 vs, hid fp1 vs, [], ⟨rw1.alo al, al.fr, cm, [], [], upd_same, by unfold VRs; exact ⟨rfl, rfl⟩, by simp, fun a ha => ?_⟩, by rw [List.drop_zero]⟩, ?_⟩
      · have e : a = D := by simpa using ha
        subst e
        exact ⟨hD, bD, fun j z => fD j (hid_sub z).1⟩
      · rintro i m H2 ⟨rfl, hi, B2, e2, fp2, acc, L, eq⟩
        have lv2 := kp _ B2 H2 _ d L.fr.show_
        by_cases hlt : i < its.length
        · have ed : its.drop i = its[i] :: its.drop (i + 1) := List.drop_eq_getElem_cons hlt
          rw [ed] at eq
          refine .inr ⟨wk.go B2 H2 i L.rel.sub lv2 hlt, fun H' => ∃ B3 e3 fp3 acc, LcSt W.z K B1 H1 (hid fp1 vs) σ (m1 ++ (m2 ++ m3)) vs D B3 H' e3 fp3 acc ∧ lcL f tc te vs its [] (wipeE e1 vs) = lcL f tc te vs (its.drop (i + 1)) acc e3,
            fun H' ⟨B3, e3, fp3, acc3, L3, eq3⟩ => ⟨its.length - (i + 1), by omega, rfl, by omega, B3, e3, fp3, acc3, L3, eq3⟩, fun x H' y => ?_⟩
          obtain ⟨B3, al3, vr⟩ := wk.yld B2 H2 i its[i] x H' L.rel.sub lv2 (List.getElem?_eq_getElem hlt) y
          have r3 := L.rel.alo al3
          have eq' : lcL f tc te vs its [] (wipeE e1 vs) = (match f its[i] e2 with
            | none => .no
            | some e1 => match tc e1 with
              | .ok b e2 => if b then (match te e2 with
                | .ok y e3 => if acc.length < sizeLine ∧ calmAt e3 vs = true then lcL f tc te vs (its.drop (i + 1)) (acc ++ [y]) (wipeE e3 vs) else .no
                | _ => .no) else if calmAt e2 vs = true then lcL f tc te vs (its.drop (i + 1)) acc (wipeE e2 vs) else .no
              | _ => .no) := eq
          have bad : lcL f tc te vs its [] (wipeE e1 vs) = .no → False := fun z => by rw [z] at p; exact p
          cases z1 : f its[i] e2 with
          | none => rw [z1] at eq'; exact (bad eq').elim
          | some e3 =>
            rw [z1] at eq'
            dsimp only at eq'
            refine ⟨B3, e2, fp2, its[i], r3, vr, ?_⟩
            rw [z1]
            intro σ4 fp4 r4 fr4 el4
            have ew := wipe_else el4 d1
            refine ⟨ew, ?_⟩
            refine ⟨B3, e3, fp4, r4, ?_⟩
            cases z2 : tc e3 with
            | no => rw [z2] at eq'; exact (bad eq').elim
            | ex x e4 => rw [z2] at eq'; exact (bad eq').elim
            | ok b e4 =>
              rw [z2] at eq'
              dsimp only at eq'
              intro B5 H5 fp5 r5 fr5
              have fr45 : Fr (m1 ++ m2) B2 H2 fp2 B5 H5 fp5 := by
                have := ((al3.fr (ms := []) (fp := fp2)).trans fr4).trans fr5
                exact this
              cases b with
              | false =>
                rw [if_neg Bool.false_ne_true] at eq' ⊢
                by_cases c5 : calmAt e4 vs = true
                · rw [if_pos c5] at eq'
                  have r6 := r5.wipe2 c5 ew nv
                  obtain ⟨ws, g, ac⟩ := L.acc
                  refine ⟨B5, wipeE e4 vs, fp5, acc, ⟨r6, ?_, r5.calm c5, ws, g, ac.move fr45⟩, eq'⟩
                  exact (L.fr.trans fr45).weak fun j hj => by
                    simp only [List.mem_append] at hj ⊢
                    grind
                · rw [if_neg c5] at eq'; exact (bad eq').elim
              | true =>
                rw [if_pos rfl] at eq' ⊢
                refine ⟨B5, e4, fp5, r5, ?_⟩
                cases z3 : te e4 with
                | no => rw [z3] at eq'; exact (bad eq').elim
                | ex x e5 => rw [z3] at eq'; exact (bad eq').elim
                | ok y5 e5 =>
                  rw [z3] at eq'
                  dsimp only at eq'
                  intro w B7 H7 fp7 f7 r7 fr7 g7
                  have fr47 := fr45.trans fr7
                  obtain ⟨ws, g, ac⟩ := L.acc
                  have a5 := ac.move fr45
                  have a7 := ac.move fr47
                  by_cases c5 : acc.length < sizeLine ∧ calmAt e5 vs = true
                  · rw [if_pos c5] at eq'
                    have r8 := r7.wipe2 c5.2 ew nv
                    have n7 := nil_srcs g7.new
                    have dj7 : ∀ a ∈ f7, a ∉ D :: g := fun a ha hz => by
                      obtain ⟨o, ho⟩ := a5.there a hz
                      rw [(n7 a ha).1] at ho; cases ho
                    have f1 : ∀ a ∈ f7, H1 a = none := fun a ha => L.fr.grow a (fr45.grow a (n7 a ha).1)
                    have nd7 := List.nodup_cons.mp a7.nd
                    refine ⟨ws, a7.at_, by rw [a7.vr.length]; exact c5.1, B7, wipeE e5 vs, fp7, acc ++ [y5], ⟨?_, ?_, r7.calm c5.2, ws ++ [w], g ++ f7, upd_same, ?_, ?_, fun a ha => ?_⟩, eq'⟩
                    · refine ⟨r8.xc, fun a o h => ?_, r8.len, fun i => (r8.at_ i).mono (Same.refl _) fun a ha o h => ?_, r8.nd, r8.dj, r8.off⟩
                      · rw [upd_ne fun z => by rw [z, (a7.new D (List.mem_cons_self ..)).2.1] at h; cases h]; exact r8.sub a o h
                      · rw [upd_ne fun z => (a7.new D (List.mem_cons_self ..)).2.2 i (by rw [← z]; exact ha)]; exact h
                    · have f8 : Fr (m1 ++ (m2 ++ m3)) B1 H1 (hid fp1 vs) B7 H7 fp7 := (L.fr.trans fr47).weak fun j hj => by
                        simp only [List.mem_append] at hj ⊢
                        grind
                      refine ⟨f8.b, fun c o h n => ?_, fun c h => ?_, f8.fresh, f8.fps, f8.fpm⟩
                      · rw [upd_ne fun z => by rw [z, hD] at h; cases h]; exact f8.keep c o h n
                      · by_cases z : c = D
                        · subst z; exact hD
                        · rw [upd_ne z] at h; exact f8.grow c h
                    · refine (a7.vr.append (.one g7.vr)).mono (Same.refl _) fun a ha o h => ?_
                      rw [upd_ne fun z => ?_]
                      · exact h
                      · subst z
                        rcases List.mem_append.mp ha with q | q
                        · exact nd7.1 q
                        · exact dj7 a q (List.mem_cons_self ..)
                    · refine List.nodup_cons.mpr ⟨fun z => ?_, List.nodup_append.mpr ⟨nd7.2, g7.nd, fun a ha b hb e => ?_⟩⟩
                      · rcases List.mem_append.mp z with q | q
                        · exact nd7.1 q
                        · exact dj7 D q (List.mem_cons_self ..)
                      · subst e; exact dj7 a hb (List.mem_cons_of_mem _ ha)
                    · rcases List.mem_cons.mp ha with rfl | ha
                      · exact a7.new a (List.mem_cons_self ..)
                      · rcases List.mem_append.mp ha with q | q
                        · exact a7.new a (List.mem_cons_of_mem _ q)
                        · exact ⟨f1 a q, g7.off a q, (n7 a q).2⟩
                  · rw [if_neg c5] at eq'; exact (bad eq').elim
        · have e : i = its.length := by omega
          subst e
          rw [List.drop_length] at eq
          have eq' : lcL f tc te vs its [] (wipeE e1 vs) = .ok acc e2 := eq
          rw [eq'] at p
          refine .inl ⟨wk.stop B2 H2 L.rel.sub lv2, ?_⟩
          obtain ⟨ws, g, hws, vr, nd, new⟩ := L.acc
          have r4 := Rel.show_ r1 L.fr L.rel nv
          refine p (.ref D) B2 H2 _ (D :: g) r4 (fr1.trans L.fr.show_) ⟨?_, nd, fun c hc => (new c hc).2.1, fun c hc => .inl ⟨fr1.grow c (new c hc).1, fun j z => ?_⟩⟩
          rotate_left
          · unfold shw at z
            by_cases hj : j ∈ vs
            · rw [if_pos hj] at z
              obtain ⟨o, ho⟩ := r1.there_ z
              rw [(new c hc).1] at ho; cases ho
            · rw [if_neg hj] at z; exact (new c hc).2.2 j z
          unfold VR
          exact ⟨D, ws, g, rfl, rfl, hws, vr⟩
    · rw [if_neg hc] at p; exact False.elim p
theorem lc_reads {mg : Str → Option Value} {K : PySem.W.Frag} {srcs m0 m1 m2 m3 vs : List Nat} {it : A} {f : T → Env → Option Env} {tc : C} {te : E} {wi : TI} (hi : ∀ B H env σ fp P, Rel W.z K B H env σ fp → PostI K mg W σ B H fp srcs m0 (it env) P → wi σ H P)
    (d : ∀ i ∈ srcs, i ∉ m1 ++ (m2 ++ m3)) (d1 : ∀ i ∈ m1, i ∈ vs) (nv : vs.all (freeZ W.z) = true) :
    ∀ B H env σ fp Q, Rel W.z K B H env σ fp → PostE K mg W σ B H fp [] (m0 ++ (m1 ++ (m2 ++ m3))) (lcM it f tc te vs env) Q → tLc wi (canG W.z K m1 f) (canC K mg (W0 W.z) m2 tc) (canE K mg (W0 W.z) [] m3 te) vs σ H Q :=
  fun B H env σ fp Q r p => lc_readsAt (fun P q => hi B H env σ fp P r q) d d1 nv Q r p
end
end Mir
namespace Mir
open PySem PySem.Spec L2
inductive FR where
  | ok (t : T) (outs : List T) | ex (x : Exc) (outs : List T) | no
abbrev F := List T → FR
def outsO (e : Env) : List Nat → Option (List T)
  | [] => some []
  | i :: is => match e[i]?.join, outsO e is with
    | some t, some ts => some (t :: ts)
    | _, _ => none
def putO (e : Env) : List Nat → List T → Env
  | i :: is, t :: ts => (putO e is ts).set i (some t)
  | _, _ => e
def FR.of (o : Option (List T)) (f : List T → FR) : FR := match o with
  | some ts => f ts
  | none => .no
def outM (os : List Nat) (o : O) : FR := match o with
  | .rt t e => .of (outsO e os) (.ok t)
  | .nx e => .of (outsO e os) (.ok .non)
  | .ex x e => .of (outsO e os) (.ex x)
  | _ => .no
def fnM (N : Nat) (os : List Nat) (b : S) : F := fun ts => outM os (b (ts.map some ++ List.replicate (N - ts.length) none))
def fnX (N : Nat) (os : List Nat) (b : Exc → S) : Exc → F := fun x ts => outM os (b x (none :: ts.map some ++ List.replicate (N - (ts.length + 1)) none))
theorem putO_length (e : Env) : ∀ (os : List Nat) (ts : List T), (putO e os ts).length = e.length
  | [], _ => by simp [putO]
  | _ :: _, [] => by simp [putO]
  | i :: is, t :: ts => by simp [putO, putO_length e is ts]
theorem putO_at {e e' : Env} : ∀ {os : List Nat} {ts : List T}, outsO e' os = some ts → (∀ i ∈ os, i < e.length) → ∀ i, (putO e os ts)[i]?.join = if i ∈ os then e'[i]?.join else e[i]?.join
  | [], ts, h, _, i => by
    simp [putO]
  | j :: is, ts, h, lt, i => by
    unfold outsO at h
    cases z1 : e'[j]?.join with
    | none => rw [z1] at h; cases h
    | some t =>
      cases z2 : outsO e' is with
      | none => rw [z1, z2] at h; cases h
      | some us =>
        rw [z1, z2] at h
        cases h
        have ih := putO_at (e := e) z2 (fun k hk => lt k (List.mem_cons_of_mem _ hk)) i
        unfold putO
        by_cases hi : i = j
        · subst hi
          rw [join_set_at (by rw [putO_length]; exact lt i (List.mem_cons_self ..)), if_pos (List.mem_cons_self ..), z1]
        · rw [join_set_ne hi, ih]
          by_cases h2 : i ∈ is
          · rw [if_pos h2, if_pos (List.mem_cons_of_mem _ h2)]
          · rw [if_neg h2, if_neg fun z => by rcases List.mem_cons.mp z with q | q; exact hi q; exact h2 q]
section
variable (Z : Option Zx) (K : PySem.W.Frag) (mg : Str → Option Value) (os : List Nat) (B H : Hp) (fp : Fp) (es : Env) (vs : List V)
def PostF (r : FR) (Q : VK) (E : XK) : Prop := match r with
  | .ok t outs => ∀ v B' H' fp' f, Rel Z K B' H' (putO es os outs) (vs.map some) fp' → Fr os B H fp B' H' fp' → Got K B' H' fp' H [] t v f → Q v H'
  | .ex x outs => ∀ cls d B' H' fp', Rel Z K B' H' (putO es os outs) (vs.map some) fp' → Fr os B H fp B' H' fp' → ExR K mg B' x cls d → E cls d H'
  | .no => False
end
def PromM (K : PySem.W.Frag) (mg : Str → Option Value) (n : Nat) (os : List Nat) (m : F) (vs : List V) (H : Hp) (Q : VK) (E : XK) : Prop :=
  ∃ B ts fp, vs.length = n ∧ Rel none K B H (ts.map some) (vs.map some) fp ∧ (∀ i, i ∉ os → fp i = []) ∧ PostF none K mg os B H fp (ts.map some) vs (m ts) Q E
def PromX (K : PySem.W.Frag) (mg : Str → Option Value) (n : Nat) (os : List Nat) (m : Exc → F) (p : Addr × Obj) (vs : List V) (H : Hp) (Q : VK) : Prop :=
  ∃ cls d x B ts fp, Zc cls d p.2 ∧ mg x.cls = some cls ∧ vs.length = n ∧ Rel (some ⟨0, p.1, cls, d, x⟩) K B H (none :: ts.map some) (vs.map some) fp ∧ (∀ i, i ∉ os → fp i = []) ∧ PostF (some ⟨0, p.1, cls, d, x⟩) K mg os B H fp (none :: ts.map some) vs (m x ts) Q (fun _ _ _ => False)
def PromB (B0 : Hp) (K : PySem.W.Frag) (mg : Str → Option Value) (n : Nat) (os : List Nat) (m : F) (vs : List V) (H : Hp) (Q : VK) (E : XK) : Prop :=
  ∃ B ts fp, Same B0 B ∧ vs.length = n ∧ Rel none K B H (ts.map some) (vs.map some) fp ∧ (∀ i, i ∉ os → fp i = []) ∧ PostF none K mg os B H fp (ts.map some) vs (m ts) Q E
theorem PromB.m {B0 : Hp} {K : PySem.W.Frag} {mg : Str → Option Value} {n : Nat} {os : List Nat} {m : F} {vs : List V} {H : Hp} {Q : VK} {E : XK} (h : PromB B0 K mg n os m vs H Q E) : PromM K mg n os m vs H Q E := by
  obtain ⟨B, ts, fp, _, h⟩ := h
  exact ⟨B, ts, fp, h⟩
structure FnG (P : Program) (w : World) (K : PySem.W.Frag) (mg : Str → Option Value) (base : Heap) (k : Nat) (f : Addr) (fd : FuncData) (ps : List Str) (os : List Nat) (m : F) : Prop where
  run : ∀ (A : Around) (outer : List PySem.Env) (s : Shared) (H : Hp) (args : Args) (us : List Value) (vs : List V) (Q : VK) (E : XK), Room k A → A.guards = some [] → Env0 P w K mg base A outer s H → BindsTo s fd args (ps.zip us) → Vals vs us →
    PromM K mg ps.length os m vs H Q E → codeAny (model P w) A (.call (.ref f) args) (CR (L2N.CX P w) outer P w H s Q E) s
structure FnX (P : Program) (w : World) (K : PySem.W.Frag) (mg : Str → Option Value) (base : Heap) (k : Nat) (f : Addr) (fd : FuncData) (ps : List Str) (os : List Nat) (m : Exc → F) : Prop where
  run : ∀ (A : Around) (outer : List PySem.Env) (s : Shared) (H : Hp) (args : Args) (us : List Value) (vs : List V) (Q : VK) (p : Addr × Obj), L2H.RoomH k A → A.guards = some [] → L2H.Hot1 A p → L2H.PinOk outer H s p → Env0 P w K mg base A outer s H → BindsTo s fd args (ps.zip us) → Vals vs us →
    PromX K mg ps.length os m p vs H Q → codeAny (model P w) A (.call (.ref f) args) (CR (L2N.CX P w) outer P w H s Q (fun _ _ _ => False)) s
theorem FnG.mono {P : Program} {w : World} {K : PySem.W.Frag} {mg : Str → Option Value} {base : Heap} {j k : Nat} {f : Addr} {fd : FuncData} {ps : List Str} {os : List Nat} {m : F} (F : FnG P w K mg base j f fd ps os m) (h : j ≤ k) : FnG P w K mg base k f fd ps os m :=
  ⟨fun A outer s H args us vs Q E hr hg => F.run A outer s H args us vs Q E (hr.mono h) hg⟩
theorem start_join {N : List Str} {vs : List V} (i : Nat) : (L2.start N vs)[i]?.join = (vs.map some)[i]?.join := by
  unfold L2.start
  by_cases h : i < vs.length
  · rw [List.getElem?_append_left (by rw [List.length_map]; exact h)]
  · have e : (vs.map some)[i]? = none := List.getElem?_eq_none (by rw [List.length_map]; omega)
    rw [List.getElem?_append_right (by rw [List.length_map]; omega), e, List.getElem?_replicate]
    split <;> rfl
theorem env_join {n : Nat} {es : Env} (i : Nat) : (es ++ List.replicate n none)[i]?.join = es[i]?.join := by
  by_cases h : i < es.length
  · rw [List.getElem?_append_left h]
  · have e : es[i]? = none := List.getElem?_eq_none (by omega)
    rw [List.getElem?_append_right (by omega), e, List.getElem?_replicate]
    split <;> rfl
theorem Rel.enter {Z : Option Zx} {K : PySem.W.Frag} {B H : Hp} {es : Env} {vs : List V} {fp : Fp} {N : List Str} (r : Rel Z K B H es (vs.map some) fp) (hl : vs.length ≤ N.length) : Rel Z K B H (es ++ List.replicate (N.length - es.length) none) (L2.start N vs) fp where
  xc := r.xc.mono (Same.refl B) (fun z _ q => by rw [env_join]; exact q) (fun z _ _ q => by rw [start_join]; exact q)
  sub := r.sub
  len := by
    have := r.len
    simp only [List.length_map] at this
    unfold L2.start
    simp only [List.length_append, List.length_map, List.length_replicate]
    omega
  at_ := fun i => by
    rw [env_join, start_join]
    exact r.at_ i
  nd := r.nd
  dj := r.dj
  off := r.off
section
variable {Z : Option Zx} {K : PySem.W.Frag} {mg : Str → Option Value} {B H B' H' : Hp} {fp fp' : Fp} {es : Env} {vs : List V} {os rs ms : List Nat} {e : Env} {σ' : St} {N : List Str}
theorem Rel.leave (r : Rel Z K B H es (vs.map some) fp) (h0 : ∀ i, i ∉ os → fp i = []) (ho : ∀ i ∈ os, i < vs.length) (r' : Rel Z K B' H' e σ' fp') (fr : Fr ms B H fp B' H' fp') (kk : Keep os (L2.start N vs) σ') {outs : List T} (eo : outsO e os = some outs) :
    Rel Z K B' H' (putO es os outs) (vs.map some) (fun i => if i ∈ os then fp' i else []) ∧ Fr os B H fp B' H' (fun i => if i ∈ os then fp' i else []) := by
  have hl : es.length = vs.length := by have := r.len; rw [List.length_map (f := some) (as := vs)] at this; exact this
  refine ⟨⟨r.xc.mono fr.b (fun z e2 q => ?_) (fun _ _ _ q => q), r'.sub, by rw [putO_length]; exact r.len, fun i => ?_, fun i => ?_, fun i j ne a ha hj => ?_, fun i a ha => ?_⟩, fr.b, fun c o h n => fr.keep c o h fun i hi hc => ?_, fr.grow, fun c h => ?_, fun j hj => ?_, fun j c hc => ?_⟩
  · rw [putO_at eo (fun i hi => by rw [hl]; exact ho i hi)]
    by_cases hi : z.i ∈ os
    · rw [if_pos hi]
      have := r'.xc
      subst e2
      exact this.1
    · rw [if_neg hi]; exact q
  · rw [putO_at eo (fun i hi => by rw [hl]; exact ho i hi)]
    by_cases hi : i ∈ os
    · rw [if_pos hi]
      show SlotR K B' H' _ _ (if i ∈ os then fp' i else [])
      rw [if_pos hi]
      have q := r'.at_ i
      have k2 := kk i hi
      rw [start_join] at k2
      rw [← k2]
      exact q
    · rw [if_neg hi]
      show SlotR K B' H' _ _ (if i ∈ os then fp' i else [])
      rw [if_neg hi]
      have q := r.at_ i
      rw [h0 i hi] at q
      exact q.mono fr.b fun _ z => nomatch z
  · show (if i ∈ os then fp' i else []).Nodup
    by_cases hi : i ∈ os
    · rw [if_pos hi]; exact r'.nd i
    · rw [if_neg hi]; exact List.nodup_nil
  · have ha : a ∈ (if i ∈ os then fp' i else []) := ha
    have hj : a ∈ (if j ∈ os then fp' j else []) := hj
    by_cases hi : i ∈ os
    · rw [if_pos hi] at ha
      by_cases h2 : j ∈ os
      · rw [if_pos h2] at hj; exact r'.dj i j ne a ha hj
      · rw [if_neg h2] at hj; cases hj
    · rw [if_neg hi] at ha; cases ha
  · have ha : a ∈ (if i ∈ os then fp' i else []) := ha
    by_cases hi : i ∈ os
    · rw [if_pos hi] at ha; exact r'.off i a ha
    · rw [if_neg hi] at ha; cases ha
  · by_cases h2 : i ∈ os
    · exact n i h2 hc
    · rw [h0 i h2] at hc; cases hc
  · rcases fr.fresh c h with q | q | ⟨i, hi, q⟩
    · exact .inl q
    · exact .inr (.inl q)
    · by_cases h2 : i ∈ os
      · exact .inr (.inr ⟨i, h2, q⟩)
      · rw [h0 i h2] at q; cases q
  · show (if j ∈ os then fp' j else []) = fp j
    rw [if_neg hj, h0 j hj]
  · have hc : c ∈ (if j ∈ os then fp' j else []) := hc
    by_cases h2 : j ∈ os
    · rw [if_pos h2] at hc; exact fr.fpm j c hc
    · rw [if_neg h2] at hc; cases hc
theorem Got.leave (h0 : ∀ i, i ∉ os → fp i = []) (r' : Rel Z K B' H' e σ' fp') (fr : Fr ms B H fp B' H' fp') (hr : ∀ i ∈ rs, i ∉ os) {t : T} {v : V} {f : List Addr} (g : Got K B' H' fp' H rs t v f) : Got K B' H' (fun i => if i ∈ os then fp' i else []) H [] t v f := by
  refine ⟨g.vr, g.nd, g.off, fun a ha => .inl ?_⟩
  rcases g.new a ha with ⟨n, m⟩ | ⟨i, hi, m⟩
  · refine ⟨n, fun j hj => ?_⟩
    have hj : a ∈ (if j ∈ os then fp' j else []) := hj
    by_cases h2 : j ∈ os
    · rw [if_pos h2] at hj; exact m j hj
    · rw [if_neg h2] at hj; cases hj
  · have h2 := hr i hi
    refine ⟨?_, fun j hj => ?_⟩
    · rcases fr.fpm i a m with q | q
      · rw [h0 i h2] at q; cases q
      · exact q
    · have hj : a ∈ (if j ∈ os then fp' j else []) := hj
      by_cases h3 : j ∈ os
      · rw [if_pos h3] at hj
        exact r'.dj i j (fun z => h2 (by rw [z]; exact h3)) a m hj
      · rw [if_neg h3] at hj; cases hj
end
abbrev WE (E : XK) : WZ := ⟨fun cls d _ H => E cls d H, none⟩
section
variable {P : Program} {w : World} {K : PySem.W.Frag} {mg : Str → Option Value} {base : Heap} {k : Nat} {f : Addr} {x qual : Str} {params : Arguments} {body : List Stmt} {scope : Scope} {dvs : List V} {kws : List (Str × V)} {fd : FuncData} {N ps : List Str} {os : List Nat} {b : S}
theorem fng_of (F : FunD K x qual params body scope dvs kws f fd) (S : FnScope N ps scope) (ho : ∀ i ∈ os, i < ps.length) (hl : ps.length ≤ N.length)
    (hbody : ∀ (cdv : Value) (A : Around) (outer : List PySem.Env) (s : Shared) (H : Hp) (E : XK), Room k (A.deeper (PyProof.Rows.envOfC qual scope s.heap.objs.size f cdv)) → (A.deeper (PyProof.Rows.envOfC qual scope s.heap.objs.size f cdv)).guards = some [] →
      ∃ rs ms, MB (cxOf (L2N.CX P w) P w K mg base N qual scope f cdv A outer s H E) (WE E) os body rs ms b ∧ ∀ i ∈ rs, i ∉ os) : FnG P w K mg base (k + 1) f fd ps os (fnM N.length os b) := by
  obtain ⟨oc, od, dV, kV, doc, pm, an, cdv, ct, osl, rfl, lk, hcd, _, _⟩ := F.ex
  refine ⟨fun A outer s H args us vs Q E hr hg e0 hb rv hsp => ?_⟩
  obtain ⟨B, ts, fp, hn, rel, h0, post⟩ := hsp
  have hlen : vs.length = ps.length := hn
  have KX : K.In s.heap := e0.mod.kin.keeps fun b o e => (e0.bs b o e).1
  have lim : s.heap.NoLimit := e0.mod.nolimit.keeps fun b o e => (e0.bs b o e).1
  have kinds : ∀ y ∈ ps.zip us, scope.names.lookup y.1 = some .local ∨ (scope.names.lookup y.1 = some .cell ∧ ((cellsFrom (s.heap.objs.size + 1) scope.names []).lookup y.1).isSome = true) := fun y hy => by
    obtain ⟨n, v⟩ := y
    rcases S.par n (List.of_mem_zip hy).1 with q | q
    · exact Or.inl q
    · exact Or.inr ⟨q, PySem.W.cellsFrom_some _ _ _ (Or.inl q)⟩
  refine codeAny_call_function hr.depth (KX _ _ lk) rfl S.co S.gen rfl (PySem.W.codeRec_of KX hcd) (hb _ _ _ _ ?_)
  refine wpAny_newFunctionEnv_cells S.kind kinds fun env he s1 ic => ?_
  subst he
  refine ⟨lim.keeps ic.toInCall.keep, codeAny_func ?_⟩
  obtain ⟨rs, ms, ⟨t, ht, hm⟩, hrs⟩ := hbody cdv A outer s H E (hr.deeper _) hg
  have I : Inv (cxOf (L2N.CX P w) P w K mg base N qual scope f cdv A outer s H E) [] (L2.start N vs) H s1 := inv_start S hr.hd e0 hlen rv ic
  have rel0 := rel.enter (N := N) (by rw [hlen]; exact hl)
  rw [List.length_map] at rel0
  have ho' : ∀ i ∈ os, i < vs.length := fun i hi => by rw [hlen]; exact ho i hi
  have fin : ∀ {s' : Shared} {σ' : St} {H' : Hp} {v : V} {u : Value}, Inv (cxOf (L2N.CX P w) P w K mg base N qual scope f cdv A outer s H E) [] σ' H' s' → RelV v u → Q v H' → CE outer P w H s Q u s' :=
    fun {s' σ' H' v u} J rv q => ⟨v, H', J.os, J.bare, J.base, J.hok, rv, q⟩
  refine wpAny_mono (ht.run [] s1 (L2.start N vs) H { nx := fun _ H' => Q .non H', rt := Q } I (hm B H _ _ fp _ rel0 ?_)) (fun fl s' hs => ?_) fun e s' hs => hs
  · unfold fnM outM at post
    show PostS K mg (WE E) os (L2.start N vs) B H fp rs ms (b (ts.map some ++ List.replicate (N.length - ts.length) none)) _
    cases z : b (ts.map some ++ List.replicate (N.length - ts.length) none) with
    | nx e1 =>
      rw [z] at post
      replace post : PostF none K mg os B H fp (ts.map some) vs (.of (outsO e1 os) (.ok .non)) Q E := post
      cases z2 : outsO e1 os with
      | none => rw [z2] at post; exact post.elim
      | some outs =>
        rw [z2] at post
        intro σ' B' H' fp' r' fr kk
        obtain ⟨r2, f2⟩ := rel.leave h0 ho' r' fr kk z2
        exact post .non B' H' _ [] r2 f2 (.pure vr_non)
    | rt t e1 =>
      rw [z] at post
      replace post : PostF none K mg os B H fp (ts.map some) vs (.of (outsO e1 os) (.ok t)) Q E := post
      cases z2 : outsO e1 os with
      | none => rw [z2] at post; exact post.elim
      | some outs =>
        rw [z2] at post
        intro v σ' B' H' fp' g r' fr kk got
        obtain ⟨r2, f2⟩ := rel.leave h0 ho' r' fr kk z2
        exact post v B' H' _ g r2 f2 (Got.leave h0 r' fr hrs got)
    | ex x e1 =>
      rw [z] at post
      replace post : PostF none K mg os B H fp (ts.map some) vs (.of (outsO e1 os) (.ex x)) Q E := post
      cases z2 : outsO e1 os with
      | none => rw [z2] at post; exact post.elim
      | some outs =>
        rw [z2] at post
        intro cls d σ' B' H' fp' r' fr kk ex
        obtain ⟨r2, f2⟩ := rel.leave h0 ho' r' fr kk z2
        exact post cls d B' H' _ r2 f2 ex
    | bk e1 => rw [z] at post; exact post.elim
    | ct e1 => rw [z] at post; exact post.elim
    | no => rw [z] at post; exact post.elim
  · cases fl with
    | ret u =>
      obtain ⟨v, σ', H', J, rv, q⟩ := hs
      exact fin J rv q
    | next =>
      obtain ⟨σ', H', J, q⟩ := hs
      exact fin (v := V.non) (u := Value.none) J rfl q
    | brk =>
      obtain ⟨_, _, _, q⟩ := hs
      exact q.elim
    | cont =>
      obtain ⟨_, _, _, q⟩ := hs
      exact q.elim
end
end Mir
namespace Mir
open PySem PySem.Spec L2
inductive AE where
  | v (m : E) | s (j : Nat)
def evalAs : List AE → Env → R (List (Option T))
  | [], e => .ok [] e
  | .v m :: r, e => (m e).bind fun t e1 => (evalAs r e1).bind fun xs e2 => .ok (some t :: xs) e2
  | .s j :: r, e => match e[j]?.join with
    | some _ => (evalAs r e).bind fun xs e1 => .ok (none :: xs) e1
    | none => .no
def fillA : List AE → List (Option T) → Env → Option (List T)
  | [], [], _ => some []
  | .v _ :: r, some t :: xs, e => (fillA r xs e).bind fun ts => some (frz t :: ts)
  | .s j :: r, none :: xs, e => e[j]?.join.bind fun t => (fillA r xs e).bind fun ts => some (t :: ts)
  | _, _, _ => none
def links : Nat → List AE → List (Nat × Nat)
  | _, [] => []
  | n, .v _ :: r => links (n + 1) r
  | n, .s j :: r => (n, j) :: links (n + 1) r
def noOwnX : List (Option T) → Bool
  | [] => true
  | some t :: xs => noOwn t && noOwnX xs
  | none :: xs => noOwnX xs
def okR (n : Nat) (xs : List (Option T)) (t : T) (outs : List T) : Bool := (outs.length == n) && ((noLst t && noLsts outs) || noOwnX xs)
def noLstF : List (Str × T) → Bool
  | [] => true
  | p :: ps => noLst p.2 && noLstF ps
def okX (n : Nat) (xs : List (Option T)) (x : Exc) (outs : List T) : Bool := (outs.length == n) && ((noLstF x.fields && noLsts outs) || noOwnX xs)
def callR (f : F) (ls : List (Nat × Nat)) (xs : List (Option T)) (ts : List T) (e : Env) : R T := match f ts with
  | .ok t outs => if okR ls.length xs t outs = true then .ok t (putO e (ls.map (·.2)) outs) else .no
  | .ex x outs => if okX ls.length xs x outs = true then .ex x (putO e (ls.map (·.2)) outs) else .no
  | .no => .no
def callE (f : F) (dts : List T) (as : List AE) : E := fun e => (evalAs as e).bind fun xs e1 => match fillA as xs e1 with
  | some ts => callR f (links 0 as) xs (ts ++ dts) e1
  | none => .no
section
variable (K : PySem.W.Frag) (B H : Hp) (σ : St)
def VRx : List AE → List (Option T) → List V → List Addr → Prop
  | [], [], vs, f => vs = [] ∧ f = []
  | .v _ :: as, some t :: xs, vs, f => ∃ v r f1 f2, vs = v :: r ∧ f = f1 ++ f2 ∧ VR K B H t v f1 ∧ VRx as xs r f2
  | .s j :: as, none :: xs, vs, f => ∃ v r, vs = v :: r ∧ σ[j]?.join = some v ∧ VRx as xs r f
  | _, _, _, _ => False
end
structure GotX (K : PySem.W.Frag) (B H : Hp) (σ : St) (fp : Fp) (H0 : Hp) (srcs : List Nat) (as : List AE) (xs : List (Option T)) (vs : List V) (f : List Addr) : Prop where
  vr : VRx K B H σ as xs vs f
  off : ∀ a ∈ f, B a = none
  new : ∀ a ∈ f, (H0 a = none ∧ ∀ j, a ∉ fp j) ∨ ∃ i ∈ srcs, a ∈ fp i
def PostX (K : PySem.W.Frag) (mg : Str → Option Value) (W : WZ) (σ : St) (B H : Hp) (fp : Fp) (srcs ms : List Nat) (as : List AE) (r : R (List (Option T))) (Q : List V → Hp → Prop) : Prop := match r with
  | .ok xs e => ∀ vs B' H' fp' f, Rel W.z K B' H' e σ fp' → Fr ms B H fp B' H' fp' → GotX K B' H' σ fp' H srcs as xs vs f → Q vs H'
  | .ex x e => ∀ cls d B' H' fp', Rel W.z K B' H' e σ fp' → Fr ms B H fp B' H' fp' → ExR K mg B' x cls d → W.w cls d σ H'
  | .no => False
def MX (X : Cx) (W : WZ) (es : List Expr) (srcs ms : List Nat) (as : List AE) : Prop := ∃ t : TA, PA X es t ∧ ∀ B H env σ fp Q, Rel W.z X.K B H env σ fp → PostX X.K X.mg W σ B H fp srcs ms as (evalAs as env) Q → t σ H Q
section
variable {K : PySem.W.Frag} {B H B' H' : Hp} {σ : St}
theorem VRx.mono (e : Same B B') : ∀ {as : List AE} {xs : List (Option T)} {vs : List V} {f : List Addr}, VRx K B H σ as xs vs f → (∀ a ∈ f, ∀ o, H a = some o → H' a = some o) → VRx K B' H' σ as xs vs f
  | [], [], _, _, h, _ => by unfold VRx at h ⊢; exact h
  | .v _ :: as, some t :: xs, vs, f, h, k => by
    unfold VRx at h ⊢
    obtain ⟨v, r, f1, f2, rfl, rfl, h1, h2⟩ := h
    exact ⟨v, r, f1, f2, rfl, rfl, h1.mono e fun a ha => k a (List.mem_append_left _ ha), VRx.mono e h2 fun a ha => k a (List.mem_append_right _ ha)⟩
  | .s j :: as, none :: xs, vs, f, h, k => by
    unfold VRx at h ⊢
    obtain ⟨v, r, rfl, h1, h2⟩ := h
    exact ⟨v, r, rfl, h1, VRx.mono e h2 k⟩
  | [], _ :: _, _, _, h, _ => by simp [VRx] at h
  | .v _ :: _, [], _, _, h, _ => by simp [VRx] at h
  | .s _ :: _, [], _, _, h, _ => by simp [VRx] at h
  | .v _ :: _, none :: _, _, _, h, _ => by simp [VRx] at h
  | .s _ :: _, some _ :: _, _, _, h, _ => by simp [VRx] at h
theorem VRx.cells : ∀ {as : List AE} {xs : List (Option T)} {vs : List V} {f : List Addr}, VRx K B H σ as xs vs f → ∀ a ∈ f, ∃ o, H a = some o ∧ MutO o
  | [], [], _, _, h, a, ha => by unfold VRx at h; rw [h.2] at ha; cases ha
  | .v _ :: as, some t :: xs, vs, f, h, a, ha => by
    unfold VRx at h
    obtain ⟨v, r, f1, f2, rfl, rfl, h1, h2⟩ := h
    rcases List.mem_append.mp ha with q | q
    · exact h1.cells a q
    · exact VRx.cells h2 a q
  | .s j :: as, none :: xs, vs, f, h, a, ha => by
    unfold VRx at h
    obtain ⟨v, r, rfl, h1, h2⟩ := h
    exact VRx.cells h2 a ha
  | [], _ :: _, _, _, h, _, _ => by simp [VRx] at h
  | .v _ :: _, [], _, _, h, _, _ => by simp [VRx] at h
  | .s _ :: _, [], _, _, h, _, _ => by simp [VRx] at h
  | .v _ :: _, none :: _, _, _, h, _, _ => by simp [VRx] at h
  | .s _ :: _, some _ :: _, _, _, h, _, _ => by simp [VRx] at h
theorem VRx.noOwn : ∀ {as : List AE} {xs : List (Option T)} {vs : List V} {f : List Addr}, VRx K B H σ as xs vs f → noOwnX xs = true → f = []
  | [], [], _, _, h, _ => by unfold VRx at h; exact h.2
  | .v _ :: as, some t :: xs, vs, f, h, n => by
    unfold VRx at h
    obtain ⟨v, r, f1, f2, rfl, rfl, h1, h2⟩ := h
    obtain ⟨n1, n2⟩ := Bool.and_eq_true_iff.mp n
    rw [h1.noOwn n1, VRx.noOwn h2 n2]; rfl
  | .s j :: as, none :: xs, vs, f, h, n => by
    unfold VRx at h
    obtain ⟨v, r, rfl, h1, h2⟩ := h
    exact VRx.noOwn h2 n
  | [], _ :: _, _, _, h, _ => by simp [VRx] at h
  | .v _ :: _, [], _, _, h, _ => by simp [VRx] at h
  | .s _ :: _, [], _, _, h, _ => by simp [VRx] at h
  | .v _ :: _, none :: _, _, _, h, _ => by simp [VRx] at h
  | .s _ :: _, some _ :: _, _, _, h, _ => by simp [VRx] at h
def slotAt : List AE → Nat → Option Nat
  | [], _ => none
  | .v _ :: _, 0 => none
  | .s j :: _, 0 => some j
  | _ :: r, n + 1 => slotAt r n
theorem links_iff : ∀ {as : List AE} {n i j : Nat}, (i, j) ∈ links n as ↔ n ≤ i ∧ slotAt as (i - n) = some j
  | [], n, i, j => by simp [links, slotAt]
  | .v m :: r, n, i, j => by
    have ih := links_iff (as := r) (n := n + 1) (i := i) (j := j)
    unfold links
    rw [ih]
    constructor
    · rintro ⟨h1, h2⟩
      refine ⟨by omega, ?_⟩
      rw [show i - n = (i - (n + 1)) + 1 by omega]
      exact h2
    · rintro ⟨h1, h2⟩
      by_cases e : i = n
      · subst e; rw [Nat.sub_self] at h2; cases h2
      · refine ⟨by omega, ?_⟩
        rw [show i - n = (i - (n + 1)) + 1 by omega] at h2
        exact h2
  | .s k :: r, n, i, j => by
    have ih := links_iff (as := r) (n := n + 1) (i := i) (j := j)
    unfold links
    rw [List.mem_cons, ih]
    constructor
    · rintro (h | ⟨h1, h2⟩)
      · cases h; rw [Nat.sub_self]; exact ⟨Nat.le_refl _, rfl⟩
      · refine ⟨by omega, ?_⟩
        rw [show i - n = (i - (n + 1)) + 1 by omega]
        exact h2
    · rintro ⟨h1, h2⟩
      by_cases e : i = n
      · subst e; rw [Nat.sub_self] at h2; cases h2; exact .inl rfl
      · refine .inr ⟨by omega, ?_⟩
        rw [show i - n = (i - (n + 1)) + 1 by omega] at h2
        exact h2
theorem links_nodup : ∀ (as : List AE) (n : Nat), ((links n as).map (·.1)).Nodup
  | [], _ => List.nodup_nil
  | .v _ :: r, n => links_nodup r (n + 1)
  | .s k :: r, n => by
    unfold links
    rw [List.map_cons]
    refine List.nodup_cons.mpr ⟨fun h => ?_, links_nodup r (n + 1)⟩
    obtain ⟨⟨i, j⟩, h1, h2⟩ := List.mem_map.mp h
    have := (links_iff.mp h1).1
    have h2 : i = n := h2
    omega
theorem VRx.fill (e : Same B B') {env : Env} {fp : Fp} (hs : ∀ j, SlotR K B H (env[j]?.join) (σ[j]?.join) (fp j)) (kb : ∀ j, ∀ a ∈ fp j, ∀ o, H a = some o → H' a = some o) : ∀ {as : List AE} {xs : List (Option T)} {vs : List V} {f : List Addr} {ts : List T}, VRx K B H σ as xs vs f → fillA as xs env = some ts → (∀ a ∈ f, ∀ o, H a = some o → B' a = some o) →
    ts.length = vs.length ∧ ∀ i, SlotR K B' H' ((ts.map some)[i]?.join) ((vs.map some)[i]?.join) (match slotAt as i with
      | some j => fp j
      | none => []) ∧ (∀ j, slotAt as i = some j → (ts.map some)[i]?.join = env[j]?.join ∧ (vs.map some)[i]?.join = σ[j]?.join ∧ i < vs.length)
  | [], [], _, _, ts, h, ef, _ => by
    unfold VRx at h
    obtain ⟨rfl, rfl⟩ := h
    cases ef
    exact ⟨rfl, fun i => ⟨rfl, fun j hj => nomatch hj⟩⟩
  | .v _ :: as, some t :: xs, vs, f, ts, h, ef, k => by
    unfold VRx at h
    obtain ⟨v, r, f1, f2, rfl, rfl, h1, h2⟩ := h
    unfold fillA at ef
    cases z : fillA as xs env with
    | none => rw [z] at ef; cases ef
    | some us =>
      rw [z] at ef
      cases ef
      obtain ⟨l, ih⟩ := VRx.fill e hs kb h2 z fun a ha => k a (List.mem_append_right _ ha)
      refine ⟨by simp [l], fun i => ?_⟩
      cases i with
      | zero => exact ⟨⟨v, rfl, h1.frz e fun a ha => k a (List.mem_append_left _ ha)⟩, fun j hj => nomatch hj⟩
      | succ i =>
        obtain ⟨q1, q2⟩ := ih i
        refine ⟨?_, fun j hj => ?_⟩
        · simpa [slotAt] using q1
        · obtain ⟨a, b, c⟩ := q2 j (by simpa [slotAt] using hj)
          exact ⟨by simpa using a, by simpa using b, by simp; omega⟩
  | .s j :: as, none :: xs, vs, f, ts, h, ef, k => by
    unfold VRx at h
    obtain ⟨v, r, rfl, h1, h2⟩ := h
    unfold fillA at ef
    cases z0 : env[j]?.join with
    | none => rw [z0] at ef; cases ef
    | some t =>
      rw [z0] at ef
      replace ef : ((fillA as xs env).bind fun ts => some (t :: ts)) = some ts := ef
      cases z : fillA as xs env with
      | none => rw [z] at ef; cases ef
      | some us =>
        rw [z] at ef
        cases ef
        obtain ⟨l, ih⟩ := VRx.fill e hs kb h2 z k
        refine ⟨by simp [l], fun i => ?_⟩
        cases i with
        | zero =>
          refine ⟨?_, fun j' hj => ?_⟩
          · have q := hs j
            rw [z0, h1] at q
            exact q.mono e (kb j)
          · have : j = j' := by simpa [slotAt] using hj
            subst this
            exact ⟨by rw [z0]; rfl, by rw [h1]; rfl, by simp⟩
        | succ i =>
          obtain ⟨q1, q2⟩ := ih i
          refine ⟨?_, fun j' hj => ?_⟩
          · simpa [slotAt] using q1
          · obtain ⟨a, b, c⟩ := q2 j' (by simpa [slotAt] using hj)
            exact ⟨by simpa using a, by simpa using b, by simp; omega⟩
  | [], _ :: _, _, _, _, h, _, _ => by simp [VRx] at h
  | .v _ :: _, [], _, _, _, h, _, _ => by simp [VRx] at h
  | .s _ :: _, [], _, _, _, h, _, _ => by simp [VRx] at h
  | .v _ :: _, none :: _, _, _, _, h, _, _ => by simp [VRx] at h
  | .s _ :: _, some _ :: _, _, _, _, h, _, _ => by simp [VRx] at h
end
theorem putO_other {e : Env} : ∀ {os : List Nat} {ts : List T} {i : Nat}, i ∉ os → (putO e os ts)[i]?.join = e[i]?.join
  | [], _, _, _ => by simp [putO]
  | _ :: _, [], _, _ => by simp [putO]
  | j :: is, t :: ts, i, h => by
    unfold putO
    rw [join_set_ne fun z => h (by rw [z]; exact List.mem_cons_self ..)]
    exact putO_other fun z => h (List.mem_cons_of_mem _ z)
theorem putO_link {e1 e2 : Env} : ∀ {ls : List (Nat × Nat)} {outs : List T}, (ls.map (·.1)).Nodup → (ls.map (·.2)).Nodup → outs.length = ls.length → (∀ p ∈ ls, p.1 < e1.length ∧ p.2 < e2.length) →
    ∀ p ∈ ls, ∃ t ∈ outs, (putO e1 (ls.map (·.1)) outs)[p.1]?.join = some t ∧ (putO e2 (ls.map (·.2)) outs)[p.2]?.join = some t
  | [], _, _, _, _, _, p, hp => by cases hp
  | q :: ls, [], _, _, h, _, _, _ => by simp at h
  | q :: ls, t :: ts, n1, n2, h, lt, p, hp => by
    rw [List.map_cons] at n1 n2
    have m1 := List.nodup_cons.mp n1
    have m2 := List.nodup_cons.mp n2
    rcases List.mem_cons.mp hp with rfl | hp
    · obtain ⟨l1, l2⟩ := lt p (List.mem_cons_self ..)
      refine ⟨t, List.mem_cons_self .., ?_, ?_⟩
      · exact join_set_at (by rw [putO_length]; exact l1)
      · exact join_set_at (by rw [putO_length]; exact l2)
    · obtain ⟨u, hu, a, b⟩ := putO_link (e1 := e1) (e2 := e2) (outs := ts) m1.2 m2.2 (by simpa using h) (fun p hp => lt p (List.mem_cons_of_mem _ hp)) p hp
      refine ⟨u, List.mem_cons_of_mem _ hu, ?_, ?_⟩
      · show ((putO e1 (ls.map (·.1)) ts).set q.1 (some t))[p.1]?.join = some u
        rw [join_set_ne fun z => m1.1 (by rw [← z]; exact List.mem_map_of_mem hp)]; exact a
      · show ((putO e2 (ls.map (·.2)) ts).set q.2 (some t))[p.2]?.join = some u
        rw [join_set_ne fun z => m2.1 (by rw [← z]; exact List.mem_map_of_mem hp)]; exact b
theorem noLsts_at : ∀ {ts : List T} {t : T}, noLsts ts = true → t ∈ ts → noLst t = true
  | u :: ts, t, h, m => by
    unfold noLsts at h
    obtain ⟨h1, h2⟩ := Bool.and_eq_true_iff.mp h
    rcases List.mem_cons.mp m with rfl | m
    · exact h1
    · exact noLsts_at h2 m
def lessB (B : Hp) (f : List Addr) : Hp := fun a => if a ∈ f then none else B a
theorem lessB_in {B : Hp} {f : List Addr} {a : Addr} (h : a ∈ f) : lessB B f a = none := if_pos h
theorem lessB_out {B : Hp} {f : List Addr} {a : Addr} (h : a ∉ f) : lessB B f a = B a := if_neg h
theorem lessB_nil {B : Hp} : lessB B [] = B := by
  funext a
  exact lessB_out (fun z => nomatch z)
theorem lessB_tup {K : PySem.W.Frag} {B : Hp} {f : List Addr} (h : ∀ a ∈ f, ∀ o, B a = some o → MutO o) (a : Addr) (xs : List V) (q : SqX K B a xs) : SqX K (lessB B f) a xs := by
  rcases q with ⟨o, oc, od, q⟩ | q
  · refine .inl ⟨o, oc, od, ?_⟩
    rw [lessB_out fun z => ?_]; exact q
    rcases h a z _ q with ⟨_, e⟩ | ⟨_, e⟩ <;> cases e
  · exact .inr q
theorem FldR.loose {K : PySem.W.Frag} {B B' H : Hp} (e : ∀ a xs, SqX K B a xs → SqX K B' a xs) : ∀ {ps : List (Str × T)} {fs : List (Str × V)}, FldR K B H ps fs → noLstF ps = true → FldR K B' H ps fs
  | [], _, h, _ => by unfold FldR at h ⊢; exact h
  | p :: ps, fs, h, n => by
    unfold FldR at h ⊢
    obtain ⟨v, r, rfl, h1, h2⟩ := h
    obtain ⟨n1, n2⟩ := Bool.and_eq_true_iff.mp n
    exact ⟨v, r, rfl, h1.loose e n1, FldR.loose e h2 n2⟩
theorem ExB.less {K : PySem.W.Frag} {B : Hp} {f : List Addr} {x : Exc} {d : Option Addr} (muts : ∀ a ∈ f, ∀ o, B a = some o → MutO o) (tup : ∀ a xs, SqX K B a xs → SqX K (lessB B f) a xs) (c : noLstF x.fields = true ∨ f = []) (h : ExB K B x d) : ExB K (lessB B f) x d := by
  rcases h with h | ⟨dd, fs, e, hb, fr⟩
  · exact .inl h
  · refine .inr ⟨dd, fs, e, ?_, ?_⟩
    · rw [lessB_out fun z => ?_]
      · exact hb
      · rcases muts dd z _ hb with ⟨_, q⟩ | ⟨_, q⟩ <;> cases q
    · rcases c with c | rfl
      · exact (fr.loose tup c).mono (Same.refl _)
      · rw [lessB_nil]; exact fr
def inv (ls : List (Nat × Nat)) (j : Nat) : Option Nat := (ls.find? fun p => p.2 == j).map (·.1)
theorem inv_some {ls : List (Nat × Nat)} {j i : Nat} (h : inv ls j = some i) : (i, j) ∈ ls := by
  unfold inv at h
  cases z : ls.find? fun p => p.2 == j with
  | none => rw [z] at h; cases h
  | some p =>
    rw [z] at h
    cases h
    have h1 := List.find?_some z
    have h2 := List.mem_of_find?_eq_some z
    have h1 : p.2 = j := by simpa using h1
    rw [← h1]
    exact h2
theorem inv_none {ls : List (Nat × Nat)} {j : Nat} (h : inv ls j = none) : j ∉ ls.map (·.2) := fun m => by
  obtain ⟨p, hp, e⟩ := List.mem_map.mp m
  unfold inv at h
  rw [Option.map_eq_none_iff, List.find?_eq_none] at h
  exact h p hp (by simp [e])
theorem call_back {Z Z2 : Option Zx} {K : PySem.W.Frag} {B1 H1 B2 H2 : Hp} {e1 : Env} {σ : St} {fp1 fpp fp2 : Fp} {f : List Addr} {ls : List (Nat × Nat)} {ps : Env} {pv : St} {outs : List T} (r1 : Rel Z K B1 H1 e1 σ fp1) (n1 : (ls.map (·.1)).Nodup) (n2 : (ls.map (·.2)).Nodup) (offf : ∀ a ∈ f, B1 a = none) (cf : ∀ a ∈ f, ∃ o, H1 a = some o ∧ MutO o)
    (hpp : ∀ p ∈ ls, fpp p.1 = fp1 p.2) (hpv : ∀ p ∈ ls, pv[p.1]?.join = σ[p.2]?.join ∧ p.1 < ps.length ∧ p.2 < e1.length) (ho : outs.length = ls.length) (r2 : Rel Z2 K B2 H2 (putO ps (ls.map (·.1)) outs) pv fp2) (fr2 : Fr (ls.map (·.1)) (addB B1 H1 f) H1 fpp B2 H2 fp2)
    (ok : noLsts outs = true ∨ f = []) (nv : ∀ p ∈ ls, freeZ Z p.2 = true) :
    ∃ fpn, Rel Z K (lessB B2 f) H2 (putO e1 (ls.map (·.2)) outs) σ fpn ∧ Fr (ls.map (·.2)) B1 H1 fp1 (lessB B2 f) H2 fpn ∧ (∀ a xs, SqX K B2 a xs → SqX K (lessB B2 f) a xs) ∧ ∀ a, H1 a = none → (∀ i, a ∉ fp2 i) → ∀ j, a ∉ fpn j := by
  have mutc : ∀ a ∈ f, ∀ o, B2 a = some o → MutO o := fun a ha o h => by
    obtain ⟨u, hu, m⟩ := cf a ha
    have := fr2.b a u (by rw [addB_in ha]; exact hu)
    rw [this] at h
    cases h
    exact m
  have tup := lessB_tup (K := K) mutc
  have sb : Same B1 (lessB B2 f) := fun a o h => by
    by_cases z : a ∈ f
    · rw [offf a z] at h; cases h
    · rw [lessB_out z]; exact fr2.b a o (by rw [addB_out z]; exact h)
  have other : ∀ {j : Nat}, j ∉ ls.map (·.2) → ∀ a ∈ fp1 j, ∀ i ∈ ls.map (·.1), a ∉ fpp i := fun {j} hj a ha i hi hc => by
    obtain ⟨p, hp, rfl⟩ := List.mem_map.mp hi
    rw [hpp p hp] at hc
    exact r1.dj j p.2 (fun z => hj (by rw [z]; exact List.mem_map_of_mem hp)) a ha hc
  have there : ∀ {j : Nat} {a : Addr}, a ∈ fp1 j → H1 a ≠ none := fun {j a} ha => by
    obtain ⟨o, h, _⟩ := r1.cell ha
    rw [h]; exact fun z => nomatch z
  let fpn : Fp := fun j => match inv ls j with
    | some i => fp2 i
    | none => fp1 j
  have fpn_s : ∀ {j i : Nat}, inv ls j = some i → fpn j = fp2 i := fun {j i} h => by show (match inv ls j with | some i => fp2 i | none => fp1 j) = _; rw [h]
  have fpn_n : ∀ {j : Nat}, inv ls j = none → fpn j = fp1 j := fun {j} h => by show (match inv ls j with | some i => fp2 i | none => fp1 j) = _; rw [h]
  have mixed : ∀ {i j : Nat} {a : Addr} {p : Nat × Nat}, p ∈ ls → p.1 = i → inv ls j = none → a ∈ fp2 i → a ∈ fp1 j → False := fun {i j a p} hp ei hj ha hc => by
    subst ei
    rcases fr2.fpm p.1 a ha with q | q
    · rw [hpp p hp] at q
      exact r1.dj p.2 j (fun z => inv_none hj (by rw [← z]; exact List.mem_map_of_mem hp)) a q hc
    · exact there hc q
  have nz : ∀ z, Z = some z → z.i ∉ ls.map (·.2) := fun z e m => by
    obtain ⟨p, hp, e2⟩ := List.mem_map.mp m
    have := nv p hp
    subst e
    exact freeZ_ne this e2.symm
  refine ⟨fpn, ⟨r1.xc.mono sb (fun z e q => by rw [putO_other (nz z e)]; exact q) (fun _ _ _ q => q), fun a o h => ?_, by rw [putO_length]; exact r1.len, fun j => ?_, fun j => ?_, fun j k ne a ha hk => ?_, fun j a ha => ?_⟩, ⟨sb, fun a o h n => fr2.keep a o h fun i hi hc => ?_, fr2.grow, fun a h => ?_, fun j hj => ?_, fun j a ha => ?_⟩, tup, fun a hn hi j hj => ?_⟩
  · by_cases z : a ∈ f
    · rw [lessB_in z] at h; cases h
    · rw [lessB_out z] at h; exact r2.sub a o h
  · cases z : inv ls j with
    | none =>
      rw [fpn_n z, putO_other (inv_none z)]
      exact (r1.at_ j).mono sb fun a ha o h => fr2.keep a o h (other (inv_none z) a ha)
    | some i =>
      rw [fpn_s z]
      have hp := inv_some z
      obtain ⟨t, ht, a, b⟩ := putO_link (e1 := ps) (e2 := e1) n1 n2 ho (fun p hp => ⟨(hpv p hp).2.1, (hpv p hp).2.2⟩) (i, j) hp
      have q := r2.at_ i
      rw [a, (hpv (i, j) hp).1] at q
      rw [b]
      obtain ⟨v, hv, vr⟩ := q
      refine ⟨v, hv, ?_⟩
      rcases ok with ok | ok
      · exact vr.loose tup (noLsts_at ok ht)
      · subst ok; rw [lessB_nil]; exact vr
  · cases z : inv ls j with
    | none => rw [fpn_n z]; exact r1.nd j
    | some i => rw [fpn_s z]; exact r2.nd i
  · cases z : inv ls j with
    | none =>
      rw [fpn_n z] at ha
      cases z2 : inv ls k with
      | none => rw [fpn_n z2] at hk; exact r1.dj j k ne a ha hk
      | some i => rw [fpn_s z2] at hk; exact mixed (inv_some z2) rfl z hk ha
    | some i =>
      rw [fpn_s z] at ha
      cases z2 : inv ls k with
      | none => rw [fpn_n z2] at hk; exact mixed (inv_some z) rfl z2 ha hk
      | some i2 =>
        rw [fpn_s z2] at hk
        refine r2.dj i i2 (fun e => ne ?_) a ha hk
        subst e
        have h1 := inv_some z
        have h2 := inv_some z2
        -- two slots for one parameter: no
        have := (List.pairwise_map.mp n1)
        exact Classical.byContradiction fun ne2 => by
          have e3 : ∀ {l : List (Nat × Nat)}, (l.map (·.1)).Nodup → (i, j) ∈ l → (i, k) ∈ l → j = k := fun {l} hn a b => by
            induction l with
            | nil => cases a
            | cons x r ih =>
              rw [List.map_cons] at hn
              have m := List.nodup_cons.mp hn
              rcases List.mem_cons.mp a with q | q
              · rcases List.mem_cons.mp b with q2 | q2
                · rw [← q] at q2; cases q2; rfl
                · exact absurd (by rw [← q]; exact List.mem_map_of_mem (f := (·.1)) q2) m.1
              · rcases List.mem_cons.mp b with q2 | q2
                · exact absurd (by rw [← q2]; exact List.mem_map_of_mem (f := (·.1)) q) m.1
                · exact ih m.2 q q2
          exact ne2 (e3 n1 h1 h2)
  · cases z : inv ls j with
    | none =>
      rw [fpn_n z] at ha
      by_cases zf : a ∈ f
      · exact lessB_in zf
      · rw [lessB_out zf]
        cases q : B2 a with
        | none => rfl
        | some o =>
          rcases fr2.fresh a (by rw [q]; exact fun z => nomatch z) with h | h | ⟨i, hi, h⟩
          · rw [addB_out zf] at h; exact absurd (r1.off j a ha) h
          · exact absurd h (there ha)
          · exact absurd h (other (inv_none z) a ha i hi)
    | some i =>
      rw [fpn_s z] at ha
      by_cases zf : a ∈ f
      · exact lessB_in zf
      · rw [lessB_out zf]; exact r2.off i a ha
  · obtain ⟨p, hp, rfl⟩ := List.mem_map.mp hi
    rw [hpp p hp] at hc
    exact n p.2 (List.mem_map_of_mem hp) hc
  · by_cases z : a ∈ f
    · exact absurd (lessB_in z) h
    · rw [lessB_out z] at h
      rcases fr2.fresh a h with q | q | ⟨i, hi, q⟩
      · rw [addB_out z] at q; exact .inl q
      · exact .inr (.inl q)
      · obtain ⟨p, hp, rfl⟩ := List.mem_map.mp hi
        rw [hpp p hp] at q
        exact .inr (.inr ⟨p.2, List.mem_map_of_mem hp, q⟩)
  · cases z : inv ls j with
    | none => exact fpn_n z
    | some i => exact absurd (List.mem_map_of_mem (f := (·.2)) (inv_some z)) hj
  · cases z : inv ls j with
    | none => rw [fpn_n z] at ha; exact .inl ha
    | some i =>
      rw [fpn_s z] at ha
      rcases fr2.fpm i a ha with q | q
      · rw [hpp (i, j) (inv_some z)] at q; exact .inl q
      · exact .inr q
  · cases z : inv ls j with
    | none => rw [fpn_n z] at hj; exact there hj hn
    | some i => rw [fpn_s z] at hj; exact hi i hj
end Mir
namespace Mir
open PySem PySem.Spec L2
section
variable {X : Cx} {W : WZ}
theorem mx_nil : MX X W [] [] [] [] := ⟨_, pa_nil, fun B H env σ fp Q r p => p [] B H fp [] r .refl ⟨by unfold VRx; exact ⟨rfl, rfl⟩, fun _ z => (nomatch z), fun _ z => (nomatch z)⟩⟩
theorem mx_v {e : Expr} {es : List Expr} {s1 s2 m1 m2 : List Nat} {a : E} {as : List AE} (ha : ME X W e s1 m1 a) (hb : MX X W es s2 m2 as) (d : ∀ i ∈ s1, i ∉ m2) (hs : starEach (e :: es) X.env = (false, eval e X.env) :: starEach es X.env := by rfl) :
    MX X W (e :: es) (s1 ++ s2) (m1 ++ m2) (.v a :: as) := by
  obtain ⟨t1, h1, k1⟩ := ha
  obtain ⟨t2, h2, k2⟩ := hb
  refine ⟨_, pa_cons h1 h2 hs, fun B H env σ fp Q r p => ?_⟩
  show t1 σ H fun x H1 => t2 σ H1 fun xs H2 => Q (x :: xs) H2
  refine k1 B H env σ fp _ r ?_
  unfold evalAs at p
  cases z1 : a env with
  | no => rw [z1] at p; exact p
  | ex x e1 => rw [z1] at p; exact fun cls d B' H' fp' r' fr => p cls d B' H' fp' r' (fr.weak fun i hi => List.mem_append_left _ hi)
  | ok u e1 =>
    rw [z1] at p
    intro v B1 H1 fp1 f1 r1 fr1 g1
    refine k2 B1 H1 e1 σ fp1 _ r1 ?_
    replace p : PostX X.K X.mg W σ B H fp (s1 ++ s2) (m1 ++ m2) (.v a :: as) ((evalAs as e1).bind fun xs e2 => .ok (some u :: xs) e2) Q := p
    cases z2 : evalAs as e1 with
    | no => rw [z2] at p; exact p
    | ex x e2 => rw [z2] at p; exact fun cls d B' H' fp' r' fr => p cls d B' H' fp' r' (fr1.trans fr)
    | ok us e2 =>
      rw [z2] at p
      intro vs B2 H2 fp2 f2 r2 fr2 g2
      have n1 := new_keep g1.new g1.there d fr2
      refine p (v :: vs) B2 H2 fp2 (f1 ++ f2) r2 (fr1.trans fr2) ⟨?_, fun a ha => ?_, fun a ha => ?_⟩
      · unfold VRx
        exact ⟨v, vs, f1, f2, rfl, rfl, g1.keep d r1 fr2, g2.vr⟩
      · rcases List.mem_append.mp ha with ha | ha
        · exact off_keep g1.off g1.new g1.there d r1 fr2 a ha
        · exact g2.off a ha
      · rcases List.mem_append.mp ha with ha | ha
        · rcases n1 a ha with q | ⟨i, hi, q⟩
          · exact .inl q
          · exact .inr ⟨i, List.mem_append_left _ hi, q⟩
        · rcases new_pre g2.new fr1 a ha with q | ⟨i, hi, q⟩
          · exact .inl q
          · exact .inr ⟨i, List.mem_append_right _ hi, q⟩
theorem mx_s {e : Expr} {es : List Expr} {j : Nat} {s2 m2 : List Nat} {as : List AE} (ha : PE X e (tVar j)) (hb : MX X W es s2 m2 as) (hs : starEach (e :: es) X.env = (false, eval e X.env) :: starEach es X.env := by rfl) :
    MX X W (e :: es) s2 m2 (.s j :: as) := by
  obtain ⟨t2, h2, k2⟩ := hb
  refine ⟨_, pa_cons ha h2 hs, fun B H env σ fp Q r p => ?_⟩
  unfold evalAs at p
  have q := r.at_ j
  cases z1 : env[j]?.join with
  | none => rw [z1] at p; exact False.elim p
  | some t =>
    rw [z1] at p q
    obtain ⟨v, hv, vr⟩ := q
    refine ⟨v, ?_, ?_⟩
    · cases z : σ[j]? with
      | none => rw [z] at hv; cases hv
      | some u => rw [z] at hv; exact congrArg some hv
    · refine k2 B H env σ fp _ r ?_
      replace p : PostX X.K X.mg W σ B H fp s2 m2 (.s j :: as) ((evalAs as env).bind fun xs e1 => .ok (none :: xs) e1) Q := p
      cases z2 : evalAs as env with
      | no => rw [z2] at p; exact p
      | ex x e2 => rw [z2] at p; exact p
      | ok us e2 =>
        rw [z2] at p
        intro vs B2 H2 fp2 f2 r2 fr2 g2
        refine p (v :: vs) B2 H2 fp2 f2 r2 fr2 ⟨?_, g2.off, g2.new⟩
        unfold VRx
        exact ⟨v, vs, rfl, hv, g2.vr⟩
variable {k : Nat} {f : Addr} {fd : FuncData} {ps : List Str} {os : List Nat} {m : F} {dvs : List V} {ds : List Value} {x : Str} {p pos : Pos} {e : Expr} {es : List Expr} {t : TA}
theorem run_fnG {pins : List (Addr × Obj)} {σ : St} {H : Hp} {s : Shared} {Q : VK} {us : List Value} {vs : List V} (F : FnG X.prog X.w X.K X.mg X.base k f fd ps os m) (hr : Room k X.A) (hgd : X.A.guards = some []) (hb : Binds X.K fd ps ds) (hd : Vals dvs ds) (tk : L2N.Takes X W.w)
    (I : Inv X pins σ H s) (rv : Vals vs us) (h : PromM X.K X.mg ps.length os m (vs ++ dvs) H Q (fun cls d H' => W.w cls d σ H')) : wpAny (model X.prog X.w) X.A (PySem.call (.ref f) us) (EP X pins σ Q) X.xe s := by
  have rall : Vals (vs ++ dvs) (us ++ ds) := rv.append hd
  have hlen : (us ++ ds).length = ps.length := by
    obtain ⟨_, _, _, hn, _⟩ := h
    rw [← rall.length]; exact hn
  refine wpAny_call (codeAny_mono (F.run X.A X.stack s H ⟨us, []⟩ (us ++ ds) (vs ++ dvs) Q (fun cls d H' => W.w cls d σ H') hr hgd I.env0 (hb s us I.kIn hlen) rall h) fun r s' hq => ?_)
  cases r with
  | error er => exact tk er s' (L2N.XE.of_call I (fun cls d H' hw => hw) hq)
  | ok fl => cases fl with
    | ret u => exact I.after hq
    | next => exact hq.elim
    | brk => exact hq.elim
    | cont => exact hq.elim
theorem pe_callG (F : FnG X.prog X.w X.K X.mg X.base k f fd ps os m) (hr : Room k X.A) (hgd : X.A.guards = some []) (hg : Gl X x) (hm : X.mg x = some (.ref f)) (hk : PySem.W.keepIn X.K (.ref f) = true) (hb : Binds X.K fd ps ds) (hd : Vals dvs ds) (tk : L2N.Takes X W.w) (ha : PA X (e :: es) t)
    (hdb : (x == ("__debug__" : Str)) = false := by decide) (he : starEach (e :: es) X.env = (false, eval e X.env) :: starEach es X.env := by rfl) (hpl : (backTo pos (starEach es X.env)).any (·.1) = false := by rfl) :
    PE X (.Call (.Name x p) (e :: es) [] pos) (fun σ H Q => t σ H fun vs H1 => PromM X.K X.mg ps.length os m (vs ++ dvs) H1 Q (fun cls d H' => W.w cls d σ H')) := by
  refine ⟨fun pins s σ H Q I h => ?_⟩
  refine wpAny_Call_Name_kw (ld_glob I hg hm (PySem.W.callWith_K (h₀ := X.base) I.ok.mod.kin hk (thn (ha.run pos pins s σ H _ I h) fun us s1 hh => ?_) he hpl) hdb)
  obtain ⟨vs, H1, I1, rv, q⟩ := hh
  exact ⟨I1.kIn, run_fnG F hr hgd hb hd tk I1 rv q⟩
theorem slotAt_links {as : List AE} {i j : Nat} (h : slotAt as i = some j) : (i, j) ∈ links 0 as := links_iff.mpr ⟨Nat.zero_le _, by rw [Nat.sub_zero]; exact h⟩
theorem links_slotAt {as : List AE} {i j : Nat} (h : (i, j) ∈ links 0 as) : slotAt as i = some j := by
  have := (links_iff.mp h).2
  rw [Nat.sub_zero] at this
  exact this
theorem app_join {α : Type} {a b : List α} {i : Nat} (h : i < a.length) : ((a ++ b).map some)[i]?.join = (a.map some)[i]?.join := by
  rw [List.map_append, List.getElem?_append_left (by rw [List.length_map]; exact h)]
theorem app_join2 {α : Type} {a b : List α} {i : Nat} (h : ¬ i < a.length) : ((a ++ b).map some)[i]?.join = (b.map some)[i - a.length]?.join := by
  rw [List.map_append, List.getElem?_append_right (by rw [List.length_map]; omega), List.length_map]
theorem VRs.slots {K : PySem.W.Frag} {B H : Hp} {ts : List T} {vs : List V} (h : VRs K B H ts vs []) (i : Nat) : SlotR K B H ((ts.map some)[i]?.join) ((vs.map some)[i]?.join) [] := by
  have l := h.length
  by_cases hi : i < ts.length
  · obtain ⟨v, g, e1, vr, sl⟩ := h.get (i := i) (List.getElem?_eq_getElem hi)
    have := List.sublist_nil.mp sl
    subst this
    rw [List.getElem?_map, List.getElem?_map, List.getElem?_eq_getElem hi, e1]
    exact ⟨v, rfl, vr⟩
  · rw [List.getElem?_eq_none (by rw [List.length_map]; omega), List.getElem?_eq_none (by rw [List.length_map]; omega)]
    exact rfl
theorem call_reads {K : PySem.W.Frag} {mg : Str → Option Value} {W' : WZ} {σ : St} {B H B1 H1 : Hp} {fp fp1 : Fp} {srcs ms : List Nat} {as : List AE} {xs : List (Option T)} {e1 : Env} {vs : List V} {g : List Addr} {dts : List T} {n : Nat} {Q : VK} (r1 : Rel W'.z K B1 H1 e1 σ fp1) (fr1 : Fr ms B H fp B1 H1 fp1) (gx : GotX K B1 H1 σ fp1 H srcs as xs vs g)
    (hd : ∀ B H, VRs K B H dts dvs []) (hn : (vs ++ dvs).length = n) (ds : ∀ i ∈ srcs, i ∉ (links 0 as).map (·.2)) (nd : ((links 0 as).map (·.2)).Nodup)
    (p : PostE K mg W' σ B H fp [] (ms ++ (links 0 as).map (·.2)) (match fillA as xs e1 with
      | some ts => callR m (links 0 as) xs (ts ++ dts) e1
      | none => .no) Q) : PromB B1 K mg n ((links 0 as).map (·.1)) m (vs ++ dvs) H1 Q (fun cls d H' => W'.w cls d σ H') := by
  cases z : fillA as xs e1 with
  | none => rw [z] at p; exact p.elim
  | some ts =>
    rw [z] at p
    replace p : PostE K mg W' σ B H fp [] (ms ++ (links 0 as).map (·.2)) (callR m (links 0 as) xs (ts ++ dts) e1) Q := p
    have sB : Same B1 (addB B1 H1 g) := addB_same gx.off
    obtain ⟨lts, fill⟩ := gx.vr.fill sB (H' := H1) r1.at_ (fun _ _ _ _ h => h) z fun a ha o h => by rw [addB_in ha]; exact h
    have gj : ∀ {j : Nat}, j ∈ (links 0 as).map (·.2) → ∀ a ∈ fp1 j, a ∉ g := fun {j} hj a ha hg => by
      rcases gx.new a hg with ⟨_, q⟩ | ⟨i, hi, q⟩
      · exact q j ha
      · exact r1.dj i j (fun e => ds i hi (by rw [e]; exact hj)) a q ha
    let fpp : Fp := fun i => match slotAt as i with
      | some j => fp1 j
      | none => []
    have fs : ∀ {i j : Nat}, slotAt as i = some j → fpp i = fp1 j := fun {i j} h => by show (match slotAt as i with | some j => fp1 j | none => []) = _; rw [h]
    have fn : ∀ {i : Nat}, slotAt as i = none → fpp i = [] := fun {i} h => by show (match slotAt as i with | some j => fp1 j | none => []) = _; rw [h]
    have inj : ∀ {i i2 j : Nat}, slotAt as i = some j → slotAt as i2 = some j → i = i2 := fun {i i2 j} h h2 => by
      have a := slotAt_links h
      have b := slotAt_links h2
      have e3 : ∀ {l : List (Nat × Nat)}, (l.map (·.2)).Nodup → (i, j) ∈ l → (i2, j) ∈ l → i = i2 := fun {l} hn a b => by
        induction l with
        | nil => cases a
        | cons x r ih =>
          rw [List.map_cons] at hn
          have m := List.nodup_cons.mp hn
          rcases List.mem_cons.mp a with q | q
          · rcases List.mem_cons.mp b with q2 | q2
            · rw [← q] at q2; cases q2; rfl
            · exact absurd (by rw [← q]; exact List.mem_map_of_mem (f := (·.2)) q2) m.1
          · rcases List.mem_cons.mp b with q2 | q2
            · exact absurd (by rw [← q2]; exact List.mem_map_of_mem (f := (·.2)) q) m.1
            · exact ih m.2 q q2
      exact e3 nd a b
    have ilt : ∀ {i j : Nat}, slotAt as i = some j → i < ts.length := fun {i j} h => by rw [lts]; exact ((fill i).2 j h).2.2
    have rp : Rel none K (addB B1 H1 g) H1 ((ts ++ dts).map some) ((vs ++ dvs).map some) fpp := by
      refine ⟨trivial, addB_sub r1.sub, ?_, fun i => ?_, fun i => ?_, fun i j ne a ha hj => ?_, fun i a ha => ?_⟩
      · have := (hd B1 H1).length
        simp only [List.length_map, List.length_append]
        omega
      · by_cases hi : i < ts.length
        · rw [app_join hi, app_join (by rw [← lts]; exact hi)]
          exact (fill i).1
        · have e0 : slotAt as i = none := by
            cases z2 : slotAt as i with
            | none => rfl
            | some j => exact absurd (ilt z2) hi
          rw [fn e0, app_join2 hi, app_join2 (by rw [← lts]; exact hi), lts]
          exact (hd _ _).slots _
      · cases z2 : slotAt as i with
        | none => rw [fn z2]; exact List.nodup_nil
        | some j => rw [fs z2]; exact r1.nd j
      · cases z2 : slotAt as i with
        | none => rw [fn z2] at ha; cases ha
        | some i2 =>
          rw [fs z2] at ha
          cases z3 : slotAt as j with
          | none => rw [fn z3] at hj; cases hj
          | some j2 =>
            rw [fs z3] at hj
            exact r1.dj i2 j2 (fun e => ne (inj z2 (by rw [e]; exact z3))) a ha hj
      · cases z2 : slotAt as i with
        | none => rw [fn z2] at ha; cases ha
        | some j =>
          rw [fs z2] at ha
          rw [addB_out (gj (List.mem_map_of_mem (f := (·.2)) (slotAt_links z2)) a ha)]
          exact r1.off j a ha
    refine ⟨addB B1 H1 g, ts ++ dts, fpp, sB, hn, rp, fun i hi => ?_, ?_⟩
    · cases z2 : slotAt as i with
      | none => exact fn z2
      | some j => exact absurd (List.mem_map_of_mem (f := (·.1)) (slotAt_links z2)) hi
    · have hpv : ∀ p ∈ links 0 as, ((vs ++ dvs).map some)[p.1]?.join = σ[p.2]?.join ∧ p.1 < ((ts ++ dts).map some).length ∧ p.2 < e1.length := fun p hp => by
        have h := links_slotAt (i := p.1) (j := p.2) hp
        obtain ⟨a, b, c⟩ := (fill p.1).2 p.2 h
        refine ⟨by rw [app_join c]; exact b, by rw [List.length_map, List.length_append]; have := ilt h; omega, ?_⟩
        cases z4 : e1[p.2]?.join with
        | some t => exact join_lt z4
        | none =>
          rw [z4] at a
          have hl := ilt h
          rw [List.getElem?_map, List.getElem?_eq_getElem hl] at a
          cases a
      have cf : ∀ a ∈ g, ∃ o, H1 a = some o ∧ MutO o := gx.vr.cells
      have nv : ∀ p ∈ links 0 as, freeZ W'.z p.2 = true := fun p hp => by
        have h := links_slotAt (i := p.1) (j := p.2) hp
        obtain ⟨a, b, c⟩ := (fill p.1).2 p.2 h
        have hl := ilt h
        rw [List.getElem?_map, List.getElem?_eq_getElem hl] at a
        exact r1.xc.ne (t := ts[p.1]) a.symm
      unfold callR at p
      cases z3 : m (ts ++ dts) with
      | no => rw [z3] at p; exact p.elim
      | ok t outs =>
        rw [z3] at p
        replace p : PostE K mg W' σ B H fp [] (ms ++ (links 0 as).map (·.2)) (if okR (links 0 as).length xs t outs = true then .ok t (putO e1 ((links 0 as).map (·.2)) outs) else .no) Q := p
        by_cases c : okR (links 0 as).length xs t outs = true
        · rw [if_pos c] at p
          obtain ⟨c1, c2⟩ := Bool.and_eq_true_iff.mp c
          have ho : outs.length = (links 0 as).length := by simpa using c1
          intro v B2 H2 fp2 f2 r2 fr2 g2
          have ok : noLsts outs = true ∨ g = [] := (Bool.or_eq_true_iff.mp c2).elim (fun h => .inl (Bool.and_eq_true_iff.mp h).2) fun h => .inr (gx.vr.noOwn h)
          obtain ⟨fpn, rn, frn, tup, nn⟩ := call_back r1 (links_nodup as 0) nd gx.off cf (fun p hp => fs (links_slotAt hp)) hpv ho r2 fr2 ok nv
          have vr : VR K (lessB B2 g) H2 t v f2 := (Bool.or_eq_true_iff.mp c2).elim (fun h => g2.vr.loose tup (Bool.and_eq_true_iff.mp h).1) fun h => by
            have := gx.vr.noOwn h
            subst this
            rw [lessB_nil]; exact g2.vr
          have n2 := nil_srcs g2.new
          refine p v _ H2 fpn f2 rn (fr1.trans frn) ⟨vr, g2.nd, fun a ha => ?_, fun a ha => .inl ⟨fr1.grow a (n2 a ha).1, nn a (n2 a ha).1 (n2 a ha).2⟩⟩
          by_cases zz : a ∈ g
          · exact lessB_in zz
          · rw [lessB_out zz]; exact g2.off a ha
        · rw [if_neg c] at p; exact p.elim
      | ex x outs =>
        rw [z3] at p
        replace p : PostE K mg W' σ B H fp [] (ms ++ (links 0 as).map (·.2)) (if okX (links 0 as).length xs x outs = true then .ex x (putO e1 ((links 0 as).map (·.2)) outs) else .no) Q := p
        by_cases c : okX (links 0 as).length xs x outs = true
        · rw [if_pos c] at p
          obtain ⟨c1, c2⟩ := Bool.and_eq_true_iff.mp c
          have ho : outs.length = (links 0 as).length := by simpa using c1
          intro cls d B2 H2 fp2 r2 fr2 ex
          have ok : noLsts outs = true ∨ g = [] := (Bool.or_eq_true_iff.mp c2).elim (fun h => .inl (Bool.and_eq_true_iff.mp h).2) fun h => .inr (gx.vr.noOwn h)
          obtain ⟨fpn, rn, frn, tup, nn⟩ := call_back r1 (links_nodup as 0) nd gx.off cf (fun p hp => fs (links_slotAt hp)) hpv ho r2 fr2 ok nv
          refine p cls d _ H2 fpn rn (fr1.trans frn) ⟨ex.cl, ?_⟩
          have muts : ∀ a ∈ g, ∀ o, B2 a = some o → MutO o := fun a ha o h => by
            obtain ⟨u, hu, mm⟩ := cf a ha
            have := fr2.b a u (by rw [addB_in ha]; exact hu)
            rw [this] at h
            cases h
            exact mm
          exact ex.fl.less muts tup ((Bool.or_eq_true_iff.mp c2).elim (fun h => .inl (Bool.and_eq_true_iff.mp h).1) fun h => .inr (gx.vr.noOwn h))
        · rw [if_neg c] at p; exact p.elim
theorem me_call {as : List AE} {dts : List T} {srcs ms : List Nat} (F : FnG X.prog X.w X.K X.mg X.base k f fd ps ((links 0 as).map (·.1)) m) (hr : Room k X.A) (hgd : X.A.guards = some []) (hg : Gl X x) (hm : X.mg x = some (.ref f)) (hk : PySem.W.keepIn X.K (.ref f) = true) (hb : Binds X.K fd ps ds) (hd : Vals dvs ds) (tk : L2N.Takes X W.w)
    (ha : MX X W (e :: es) srcs ms as) (hdt : ∀ B H, VRs X.K B H dts dvs []) (hn : as.length + dvs.length = ps.length) (dj : ∀ i ∈ srcs, i ∉ (links 0 as).map (·.2)) (nd : ((links 0 as).map (·.2)).Nodup)
    (hdb : (x == ("__debug__" : Str)) = false := by decide) (he : starEach (e :: es) X.env = (false, eval e X.env) :: starEach es X.env := by rfl) (hpl : (backTo pos (starEach es X.env)).any (·.1) = false := by rfl) :
    ME X W (.Call (.Name x p) (e :: es) [] pos) [] (ms ++ (links 0 as).map (·.2)) (callE m dts as) := by
  obtain ⟨t, ht, hm2⟩ := ha
  refine ⟨_, pe_callG F hr hgd hg hm hk hb hd tk ht hdb he hpl, fun B H env σ fp Q r p => ?_⟩
  refine hm2 B H env σ fp _ r ?_
  unfold callE at p
  cases z : evalAs as env with
  | no => rw [z] at p; exact p
  | ex x e1 => rw [z] at p; exact fun cls d B' H' fp' r' fr => p cls d B' H' fp' r' (fr.weak fun i hi => List.mem_append_left _ hi)
  | ok xs e1 =>
    rw [z] at p
    intro vs B1 H1 fp1 g r1 fr1 gx
    have lx : vs.length = as.length := by
      have : ∀ {as : List AE} {xs : List (Option T)} {vs : List V} {f : List Addr}, VRx X.K B1 H1 σ as xs vs f → vs.length = as.length := fun {as} => by
        induction as with
        | nil =>
          intro xs vs f h
          cases xs with
          | nil => unfold VRx at h; rw [h.1]; rfl
          | cons _ _ => simp [VRx] at h
        | cons a as ih =>
          intro xs vs f h
          cases a with
          | v m =>
            cases xs with
            | nil => simp [VRx] at h
            | cons x xs =>
              cases x with
              | none => simp [VRx] at h
              | some t =>
                unfold VRx at h
                obtain ⟨v, r, f1, f2, rfl, _, _, h2⟩ := h
                simp [ih h2]
          | s j =>
            cases xs with
            | nil => simp [VRx] at h
            | cons x xs =>
              cases x with
              | some t => simp [VRx] at h
              | none =>
                unfold VRx at h
                obtain ⟨v, r, rfl, _, h2⟩ := h
                simp [ih h2]
      exact this gx.vr
    exact (call_reads r1 fr1 gx hdt (by rw [List.length_append, lx]; exact hn) dj nd p).m
end
end Mir
namespace Mir
open PySem PySem.Spec L2
section
variable {K : PySem.W.Frag} {B H : Hp} {Q : VK}
theorem gv {t : T} {v : V} (g : GivesM K B H (some t) Q) (s : Same B H) (h : VR K B H t v []) : Q v H := g v B H [] (.refl s) h List.nodup_nil (fun _ z => nomatch z)
theorem gvB {b : Bool} (g : GivesM K B H (some (.bl b)) Q) (s : Same B H) : Q (.bl b) H := gv g s vr_bl
theorem gvI {b : Int} (g : GivesM K B H (some (.int b)) Q) (s : Same B H) : Q (.int b) H := gv g s vr_int
theorem gvS {b : Str} (g : GivesM K B H (some (.str b)) Q) (s : Same B H) : Q (.str b) H := gv g s vr_str
theorem off_of (s : Same B H) {p : Addr} (hp : H p = none) : B p = none := by
  cases q : B p with
  | none => rfl
  | some o => rw [s p o q] at hp; cases hp
theorem gvL {ts : List T} {vs : List V} (g : GivesM K B H (some (.own ts)) Q) (s : Same B H) (h : VRs K B H ts vs []) (p : Addr) (hp : H p = none) : Q (.ref p) (upd H p (.lst vs)) := by
  refine g (.ref p) B _ [p] ⟨Same.refl _, upd_sameH hp, fun c hc => .inl hc, fun c o hc => upd_sameH hp c o (s c o hc)⟩ ?_ (by simp) fun a ha => ?_
  · unfold VR
    exact ⟨p, vs, [], rfl, rfl, upd_same, h.mono (Same.refl _) fun _ z => nomatch z⟩
  · have e : a = p := by simpa using ha
    subst e
    exact ⟨hp, off_of s hp⟩
theorem gvT {ts : List T} {vs : List V} (g : GivesM K B H (some (.tup ts)) Q) (s : Same B H) (h : VRs K B H ts vs []) : NewT Q H vs := by
  intro p ob hp oc od
  have hB := off_of s hp
  have al : Alo B H (upd B p (.frz ob (.tup vs))) (upd H p (.frz ob (.tup vs))) := ⟨upd_sameH hB, upd_sameH hp, fun c hc => by
    by_cases e : c = p
    · subst e; exact .inr hp
    · rw [upd_ne e] at hc; exact .inl hc, fun c o hc => by
    by_cases e : c = p
    · subst e; rw [upd_same] at hc ⊢; exact hc
    · rw [upd_ne e] at hc ⊢; exact s c o hc⟩
  refine g (.ref p) _ _ [] al ?_ List.nodup_nil fun _ z => nomatch z
  unfold VR
  exact ⟨rfl, p, vs, rfl, .inl ⟨ob, oc, od, upd_same⟩, h.mono al.b fun _ z => nomatch z⟩
def flat? : T → Option (List T)
  | .tup ts => some ts
  | .lst ts => some ts
  | .rol ts => some ts
  | .own ts => if noOwns ts then some ts else none
  | _ => none
theorem flat_of {x : T} {v : V} {f : List Addr} {ts : List T} (s : Same B H) (h : VR K B H x v f) (e : flat? x = some ts) : ∃ a vs, v = .ref a ∧ VRs K B H ts vs [] ∧ (SqL K H a vs ∨ SqT K H a vs) := by
  cases x with
  | tup us =>
    cases e
    unfold VR at h
    obtain ⟨_, a, vs, rfl, q, r⟩ := h
    exact ⟨a, vs, rfl, r, .inr (same_sqT s q)⟩
  | lst us =>
    cases e
    unfold VR at h
    obtain ⟨_, a, vs, rfl, q, r⟩ := h
    exact ⟨a, vs, rfl, r, .inl (.of (s _ _ q))⟩
  | rol us =>
    cases e
    unfold VR at h
    obtain ⟨_, a, vs, rfl, q, r⟩ := h
    exact ⟨a, vs, rfl, r, .inl (s.seq q)⟩
  | own us =>
    replace e : (if noOwns us = true then some us else none) = some ts := e
    by_cases n : noOwns us = true
    · rw [if_pos n] at e
      cases e
      unfold VR at h
      obtain ⟨a, vs, g, rfl, _, q, r⟩ := h
      exact ⟨a, vs, rfl, r.noOwns_nil n, .inl (.of q)⟩
    · rw [if_neg n] at e; cases e
  | _ => cases e
def list? : T → Option (List T)
  | .lst ts => some ts
  | .own ts => if noOwns ts then some ts else none
  | _ => none
theorem list_of {x : T} {v : V} {f : List Addr} {ts : List T} (s : Same B H) (h : VR K B H x v f) (e : list? x = some ts) : ∃ a vs, v = .ref a ∧ VRs K B H ts vs [] ∧ H a = some (.lst vs) := by
  cases x with
  | lst us =>
    cases e
    unfold VR at h
    obtain ⟨_, a, vs, rfl, q, r⟩ := h
    exact ⟨a, vs, rfl, r, s _ _ q⟩
  | own us =>
    replace e : (if noOwns us = true then some us else none) = some ts := e
    by_cases n : noOwns us = true
    · rw [if_pos n] at e
      cases e
      unfold VR at h
      obtain ⟨a, vs, g, rfl, _, q, r⟩ := h
      exact ⟨a, vs, rfl, r.noOwns_nil n, q⟩
    · rw [if_neg n] at e; cases e
  | _ => cases e
def alist? : T → Option (List T)
  | .rol ts => some ts
  | x => list? x
theorem alist_of {x : T} {v : V} {f : List Addr} {ts : List T} (s : Same B H) (h : VR K B H x v f) (e : alist? x = some ts) : ∃ a vs, v = .ref a ∧ VRs K B H ts vs [] ∧ SqL K H a vs := by
  cases x with
  | rol us =>
    cases e
    unfold VR at h
    obtain ⟨_, a, vs, rfl, q, r⟩ := h
    exact ⟨a, vs, rfl, r, s.seq q⟩
  | lst us =>
    obtain ⟨a, vs, h1, h2, h3⟩ := list_of s h (show list? (.lst us) = some ts from e)
    exact ⟨a, vs, h1, h2, .of h3⟩
  | own us =>
    obtain ⟨a, vs, h1, h2, h3⟩ := list_of s h (show list? (.own us) = some ts from e)
    exact ⟨a, vs, h1, h2, .of h3⟩
  | _ => cases e
theorem vrI {i : Int} {v : V} {f : List Addr} (h : VR K B H (.int i) v f) : v = .int i := by unfold VR at h; exact h.1
theorem vrS {i : Str} {v : V} {f : List Addr} (h : VR K B H (.str i) v f) : v = .str i := by unfold VR at h; exact h.1
theorem vrB {i : Bool} {v : V} {f : List Addr} (h : VR K B H (.bl i) v f) : v = .bl i := by unfold VR at h; exact h.1
theorem vrN {v : V} {f : List Addr} (h : VR K B H .non v f) : v = .non := by unfold VR at h; exact h.1
theorem vrs_ints : ∀ {ns : List Int}, VRs K B H (ns.map .int) (ns.map V.int) []
  | [] => by unfold List.map VRs; exact ⟨rfl, rfl⟩
  | n :: ns => by
    show VRs K B H (.int n :: ns.map .int) (.int n :: ns.map V.int) []
    unfold VRs
    exact ⟨_, _, [], [], rfl, rfl, vr_int, vrs_ints⟩
end
section
variable {X : Cx}
def addT : T → T → Option T
  | .int i, .int j => some (.int (i + j))
  | .str x, .str y => if x.length + y.length ≤ sizeLine then some (.str (x ++ y)) else none
  | .tup xs, .tup ys => if xs.length + ys.length ≤ sizeLine then some (.tup (xs ++ ys)) else none
  | x, y => (list? x).bind fun xs => (list? y).bind fun ys => if xs.length + ys.length ≤ sizeLine then some (.own (xs ++ ys)) else none
abbrev rAddA (K : PySem.W.Frag) : R2 := fun x y H Q => (∃ i j, x = .int i ∧ y = .int j ∧ Q (.int (i + j)) H) ∨ (∃ i j, x = .str i ∧ y = .str j ∧ i.length + j.length ≤ sizeLine ∧ Q (.str (i ++ j)) H) ∨ rCat x y H Q ∨ rCatX K x y H Q
theorem op_addA : OpR X (binaryOp .Add) (rAddA X.K) := op_add.or (op_add_str.or (op_cat.or op_catX))
theorem addT_list {x y t : T} (h : addT x y = some t) (n : ∀ i j, ¬ (x = .int i ∧ y = .int j)) (n2 : ∀ i j, ¬ (x = .str i ∧ y = .str j)) (n3 : ∀ i j, ¬ (x = .tup i ∧ y = .tup j)) : ∃ xs ys, list? x = some xs ∧ list? y = some ys ∧ xs.length + ys.length ≤ sizeLine ∧ t = .own (xs ++ ys) := by
  have h : ((list? x).bind fun xs => (list? y).bind fun ys => if xs.length + ys.length ≤ sizeLine then some (.own (xs ++ ys)) else none) = some t := by
    rw [← h]
    unfold addT
    split
    · exact absurd ⟨rfl, rfl⟩ (n _ _)
    · exact absurd ⟨rfl, rfl⟩ (n2 _ _)
    · exact absurd ⟨rfl, rfl⟩ (n3 _ _)
    · rfl
  cases z1 : list? x with
  | none => rw [z1] at h; cases h
  | some xs =>
    cases z2 : list? y with
    | none => rw [z1, z2] at h; cases h
    | some ys =>
      rw [z1, z2] at h
      dsimp only [Option.bind] at h
      split at h
      · rename_i c; cases h; exact ⟨xs, ys, rfl, rfl, c, rfl⟩
      · cases h
theorem opm_add : OpM X (rAddA X.K) addT := fun B H x y tx ty f1 f2 Q s hx hy g => by
  cases z : addT tx ty with
  | none => rw [z] at g; exact g.elim
  | some t =>
    rw [z] at g
    by_cases c1 : ∃ i j, tx = .int i ∧ ty = .int j
    · obtain ⟨i, j, rfl, rfl⟩ := c1
      cases z
      exact .inl ⟨i, j, vrI hx, vrI hy, gvI g s⟩
    · by_cases c2 : ∃ i j, tx = .str i ∧ ty = .str j
      · obtain ⟨i, j, rfl, rfl⟩ := c2
        unfold addT at z
        dsimp only at z
        by_cases c : i.length + j.length ≤ sizeLine
        · rw [if_pos c] at z; cases z
          exact .inr (.inl ⟨i, j, vrS hx, vrS hy, c, gvS g s⟩)
        · rw [if_neg c] at z; cases z
      · by_cases c3 : ∃ i j, tx = .tup i ∧ ty = .tup j
        · obtain ⟨xs, ys, rfl, rfl⟩ := c3
          unfold addT at z
          dsimp only at z
          by_cases c : xs.length + ys.length ≤ sizeLine
          · rw [if_pos c] at z; cases z
            have hx0 := hx
            have hy0 := hy
            unfold VR at hx hy
            obtain ⟨rfl, a, vs, rfl, qx, rx⟩ := hx
            obtain ⟨rfl, b, ws, rfl, qy, ry⟩ := hy
            refine .inr (.inr (.inr ⟨a, b, vs, ws, rfl, rfl, same_sqT s qx, same_sqT s qy, by rw [rx.length, ry.length]; exact c, fun e => ?_, fun _ e => ?_, fun _ _ => gvT g s (rx.append ry)⟩))
            · have : xs = [] := List.eq_nil_of_length_eq_zero (by rw [← rx.length, e]; rfl)
              subst this
              exact gv g s hy0
            · have : ys = [] := List.eq_nil_of_length_eq_zero (by rw [← ry.length, e]; rfl)
              subst this
              rw [List.append_nil] at g
              exact gv g s hx0
          · rw [if_neg c] at z; cases z
        · obtain ⟨xs, ys, e1, e2, e3, rfl⟩ := addT_list z (fun i j h => c1 ⟨i, j, h⟩) (fun i j h => c2 ⟨i, j, h⟩) (fun i j h => c3 ⟨i, j, h⟩)
          obtain ⟨a, vs, rfl, rx, qx⟩ := list_of s hx e1
          obtain ⟨b, ws, rfl, ry, qy⟩ := list_of s hy e2
          exact .inr (.inr (.inl ⟨a, b, vs, ws, rfl, rfl, qx, qy, by rw [rx.length, ry.length]; exact e3, fun p hp => gvL g s (rx.append ry) p hp⟩))
def i2 (f : Int → Int → Option T) : T → T → Option T
  | .int i, .int j => f i j
  | _, _ => none
theorem i2_ok {f : Int → Int → Option T} {x y t : T} (h : i2 f x y = some t) : ∃ i j, x = .int i ∧ y = .int j ∧ f i j = some t := by
  cases x <;> cases y <;> first | cases h | exact ⟨_, _, rfl, rfl, h⟩
theorem opm_i2 {r : R2} {f : Int → Int → Option T} (h : ∀ B H i j t Q, Same B H → f i j = some t → GivesM X.K B H (some t) Q → r (.int i) (.int j) H Q) : OpM X r (i2 f) := fun B H x y tx ty f1 f2 Q s hx hy g => by
  cases z : i2 f tx ty with
  | none => rw [z] at g; exact g.elim
  | some t =>
    rw [z] at g
    obtain ⟨i, j, rfl, rfl, e⟩ := i2_ok z
    rw [vrI hx, vrI hy]
    exact h B H i j t Q s e g
def subT : T → T → Option T := i2 fun i j => some (.int (i - j))
theorem opm_sub : OpM X (rI0 fun i j => .int (i - j)) subT := opm_i2 fun B H i j t Q s e g => by
  cases e; exact ⟨i, j, rfl, rfl, gvI g s⟩
def modT : T → T → Option T := i2 fun i j => if 0 < j then some (.int (i % j)) else none
theorem opm_mod : OpM X (rI (fun _ j => 0 < j) fun i j => .int (i % j)) modT := opm_i2 fun B H i j t Q s e g => by
  by_cases c : 0 < j
  · rw [if_pos c] at e; cases e; exact ⟨i, j, rfl, rfl, c, gvI g s⟩
  · rw [if_neg c] at e; cases e
def divT : T → T → Option T := i2 fun i j => if 0 < j ∧ j.natAbs < 1073741824 then some (.int (i / j)) else none
theorem opm_div : OpM X (rI CDiv fun i j => .int (i / j)) divT := opm_i2 fun B H i j t Q s e g => by
  by_cases c : 0 < j ∧ j.natAbs < 1073741824
  · rw [if_pos c] at e; cases e; exact ⟨i, j, rfl, rfl, ⟨c.1, by omega⟩, gvI g s⟩
  · rw [if_neg c] at e; cases e
def powT : T → T → Option T := i2 fun i j => if 0 ≤ j ∧ j.natAbs ≤ 1000000 ∧ i.natAbs < 18446744073709551616 then some (.int (i ^ j.toNat)) else none
theorem opm_pow : OpM X (rI CPow fun i j => .int (i ^ j.toNat)) powT := opm_i2 fun B H i j t Q s e g => by
  by_cases c : 0 ≤ j ∧ j.natAbs ≤ 1000000 ∧ i.natAbs < 18446744073709551616
  · rw [if_pos c] at e; cases e; exact ⟨i, j, rfl, rfl, ⟨c.1, by omega, c.2.2⟩, gvI g s⟩
  · rw [if_neg c] at e; cases e
theorem op_mul_strA : OpR X (binaryOp .Mult) (fun x y H Q => ∃ z n, x = .str z ∧ y = .int n ∧ 1 ≤ n ∧ n ≤ 100000 ∧ z.length * n.toNat ≤ sizeLine ∧ Q (.str ⟨(List.replicate n.toNat z.cps).foldl (· ++ ·) #[]⟩) H) := by
  intro pins s σ H x y v u Q I rx ry h
  obtain ⟨z, n, rfl, rfl, h1, h2, h3, q⟩ := h
  obtain ⟨t, rfl⟩ := rx
  obtain ⟨t', rfl⟩ := ry
  have fold1 : n = 1 → (⟨(List.replicate n.toNat z.cps).foldl (· ++ ·) #[]⟩ : Str) = z := fun e => by
    subst e
    show (⟨#[] ++ z.cps⟩ : Str) = z
    rw [Array.empty_append]
  refine PySem.P.mul_str ?_ (fun _ hz => ?_) (fun _ _ => ?_) ?_
  · have a : ¬ n < -(2 ^ 63) := by omega
    have b : ¬ n ≥ 2 ^ 63 := by omega
    rw [decide_eq_false a, decide_eq_false b]; rfl
  · have l : (z.length : Int) ≤ 16777216 := by
      have := h3
      have l1 : z.length ≤ z.length * n.toNat := Nat.le_mul_of_pos_right _ (by omega)
      have : z.length ≤ 16777216 := by
        have e := sizeLine_eq
        omega
      omega
    have d : (16777216 : Int) ≤ (2 ^ 63 - 1) / n := (Int.le_ediv_iff_mul_le (by omega)).mpr (by omega)
    omega
  · exact decide_eq_false (Nat.not_lt.mpr h3)
  · rw [if_neg (by omega)]
    by_cases c : (n == 1 || z.length == 0) = true
    · rw [if_pos c]
      have ez : (⟨(List.replicate n.toNat z.cps).foldl (· ++ ·) #[]⟩ : Str) = z := by
        rcases Bool.or_eq_true_iff.mp c with c | c
        · exact fold1 (by simpa using c)
        · have e0 : z.cps = #[] := Array.eq_empty_of_size_eq_zero (by simpa [Str.length] using c)
          have : ∀ k : Nat, (List.replicate k (#[] : Array Nat)).foldl (· ++ ·) #[] = #[] := fun k => by
            induction k with
            | zero => rfl
            | succ k ih => rw [List.replicate_succ, List.foldl_cons, Array.empty_append]; exact ih
          rw [e0, this]
          exact (by cases z; simp at e0; rw [e0])
      rw [ez] at q
      exact ⟨.str z, H, I, ⟨t, rfl⟩, q⟩
    · rw [if_neg c]
      have sz : ∀ k : Nat, ((List.replicate k z.cps).foldl (· ++ ·) #[]).size = z.cps.size * k := fun k => by
        have gen : ∀ (k : Nat) (acc : Array Nat), ((List.replicate k z.cps).foldl (· ++ ·) acc).size = acc.size + z.cps.size * k := fun k => by
          induction k with
          | zero => intro acc; rfl
          | succ k ih =>
            intro acc
            rw [List.replicate_succ, List.foldl_cons, ih, Array.size_append, Nat.mul_succ]
            omega
        rw [gen]
        simp
      exact ⟨by show ((List.replicate n.toNat z.cps).foldl (· ++ ·) #[]).size ≤ _; rw [sz]; exact h3, .str _, H, I.tok _, ⟨_, rfl⟩, q⟩
end
end Mir
namespace Mir
open PySem PySem.Spec L2
section
variable {X : Cx} {K : PySem.W.Frag} {B H : Hp}
theorem VRs.reps {ts : List T} {vs : List V} (h : VRs K B H ts vs []) : ∀ k : Nat, VRs K B H (List.replicate k ts).flatten (List.replicate k vs).flatten []
  | 0 => by
    show VRs K B H [] [] []
    unfold VRs; exact ⟨rfl, rfl⟩
  | k + 1 => by
    rw [List.replicate_succ, List.replicate_succ, List.flatten_cons, List.flatten_cons]
    exact h.append (VRs.reps h k)
theorem tuple_mulE (l : Addr) (n : Nat) (dd : Option Addr) (sl : Array (Option Value)) (x : Int) (u : Tok) (c0 : (decide (x < -(2 ^ 63)) || decide (x ≥ 2 ^ 63)) = false) :
    Meets (Builtin.«tuple.__mul__» ⟨[.ref l, .int x u], []⟩) (fun _ R s => s.heap.get? l = some { cls := .type "tuple", dict := dd, data := .seq #[] n, slots := sl } ∧
      R (.ok (.ret (Value.ref l))) s) :=
  .of_wp fun prog w A R s h => by
    obtain ⟨hp, g, d, tk, os⟩ := s
    obtain ⟨hl, h⟩ := h
    have f1 := AutoSeq1.idx_int
    have c1 : ((#[] : Array Value).isEmpty || x == 1) = true := by
      rw [show (#[] : Array Value).isEmpty = true from rfl, Bool.true_or]
    wp_walk using wpAny_loadPart' hl
    repeat (first
      | (refine wpAny_ite_false (decide_eq_false (by rw [c0]; exact Bool.false_ne_true)) ?_; wp_walk using wpAny_loadPart' hl)
      | (refine wpAny_ite_true (decide_eq_true c1) ?_; wp_walk using wpAny_loadPart' hl))
    exact ⟨_, rfl, h⟩
def rRepX (K : PySem.W.Frag) : R2 := fun x y H Q => ∃ l k xs, x = .ref l ∧ y = .int k ∧ SqT K H l xs ∧ 2 ≤ k ∧ k ≤ 1000 ∧ xs.length ≤ 1000 ∧
  (xs = [] → Q (.ref l) H) ∧ (xs ≠ [] → NewT Q H (List.replicate k.toNat xs).flatten)
open PyProof.Rows in
theorem op_repX : OpR X (binaryOp .Mult) (rRepX X.K) := by
  intro pins s σ H x y v u Q I rx ry h
  obtain ⟨l, k, xs, rfl, rfl, hT, h1, h2, hz, q0, q⟩ := h
  cases rx
  obtain ⟨t, rfl⟩ := ry
  obtain ⟨its, r, ⟨⟨cls, dd, data, sl⟩, ho, hc, n, hd⟩, hs⟩ := I.tuple hT
  simp only at hc hd
  subst hc hd
  have hle : its.length = xs.length := r.length.symm
  have c0 : (decide (k < -(2 ^ 63)) || decide (k ≥ 2 ^ 63)) = false := by
    rw [decide_eq_false (by omega), decide_eq_false (by omega)] <;> rfl
  by_cases hne : xs = []
  · subst hne
    have hn : its = [] := List.eq_nil_of_length_eq_zero hle
    subst hn
    refine wpAny_binaryOp_repeat_ref (T := "tuple") (U := "int") (by decide) ⟨_, ho, rfl⟩ (fun s' => typeIs_int s' k t) noFill_tuple_mul F.fills_int_mul F.slot_int_rmul repeat_tuple F.slot_int_index.lookup
      (call_meets F.slot_int_rmul (typeIs_int s k t) F.entry_int_rmul (F.args_int_rmul_2 _ _) (int_rmul_tuple k t l #[] n dd sl)
        ⟨ho, rfl, ⟨_, ho, rfl⟩, call_meets F.slot_tuple_mul ⟨_, ho, rfl⟩ F.entry_tuple_mul (F.args_tuple_mul_2 _ _) (tuple_mulE l n dd sl k t c0) ⟨ho, ?_⟩⟩)
    exact ⟨.ref l, H, I, rfl, q0 rfl⟩
  have hn : its ≠ [] := fun e => hne (by
    rw [e] at hle
    exact List.eq_nil_of_length_eq_zero hle.symm)
  have hi : its.toArray.isEmpty = false := by
    cases its with
    | nil => exact absurd rfl hn
    | cons a b => rfl
  have hsz0 : its.toArray.size = xs.length := by rw [List.size_toArray, hle]
  have hm : ((its.toArray.size : Nat) : Int) * k ≤ 1000000 := by
    rw [hsz0]
    have a1 : ((xs.length : Nat) : Int) * k ≤ 1000 * k := Int.mul_le_mul_of_nonneg_right (by omega) (by omega)
    omega
  have fl1 : k.toNat * xs.length ≤ sizeLine := by
    rw [sizeLine_eq]
    have a1 : k.toNat * xs.length ≤ 1000 * 1000 := Nat.mul_le_mul (by omega) hz
    omega
  have flen : (List.replicate k.toNat its).flatten.length ≤ sizeLine := by
    rw [PyProof.Rows.lm_len_rep_flat, hle]
    exact fl1
  have c1 : (its.toArray.isEmpty || k == 1) = false := by
    rw [hi, Bool.false_or]
    exact beq_eq_false_iff_ne.mpr (by omega)
  have c2 : (decide (k ≤ 0) || its.toArray.isEmpty) = false := by
    rw [hi, Bool.or_false]
    exact decide_eq_false (by omega)
  have c4 : Builtin.Tuple.tupleTooMany (((its.toArray.size : Nat) : Int) * k) = false := by
    unfold Builtin.Tuple.tupleTooMany
    rw [sizeLine_eq]
    exact decide_eq_false (by omega)
  refine wpAny_binaryOp_repeat_ref (T := "tuple") (U := "int") (by decide) ⟨_, ho, rfl⟩ (fun s' => typeIs_int s' k t) noFill_tuple_mul F.fills_int_mul F.slot_int_rmul repeat_tuple F.slot_int_index.lookup
    (call_meets F.slot_int_rmul (typeIs_int s k t) F.entry_int_rmul (F.args_int_rmul_2 _ _) (int_rmul_tuple k t l its.toArray n dd sl)
      ⟨ho, rfl, ⟨_, ho, rfl⟩, call_meets F.slot_tuple_mul ⟨_, ho, rfl⟩ F.entry_tuple_mul (F.args_tuple_mul_2 _ _) (tuple_mulW l its.toArray n dd sl k t c0 c1 c2 (by omega) c4 (by rw [size_rep, List.size_toArray]; exact flen)) ⟨ho, ?_⟩⟩)
  rw [size_rep]
  exact exact_new I (r.rep k.toNat) (by rw [PyProof.Rows.lm_len_rep_flat]; exact fl1) (q hne)
def mulT : T → T → Option T
  | .int i, .int j => if i.natAbs < 18446744073709551616 ∨ j.natAbs < 18446744073709551616 then some (.int (i * j)) else none
  | .str z, .int n => if 1 ≤ n ∧ n.natAbs ≤ 100000 ∧ z.length * n.toNat ≤ sizeLine then some (.str ⟨(List.replicate n.toNat z.cps).foldl (· ++ ·) #[]⟩) else none
  | .tup ts, .int n => if 2 ≤ n ∧ n.natAbs ≤ 1000 ∧ ts.length ≤ 1000 then some (.tup (List.replicate n.toNat ts).flatten) else none
  | x, .int n => (list? x).bind fun ts => if n.natAbs < 9223372036854775808 ∧ ts.length * n.toNat ≤ sizeLine then some (.own (List.replicate n.toNat ts).flatten) else none
  | _, _ => none
abbrev rMulA (K : PySem.W.Frag) : R2 := fun x y H Q => (∃ i j, x = .int i ∧ y = .int j ∧ CMul i j ∧ Q (.int (i * j)) H) ∨ (∃ z n, x = .str z ∧ y = .int n ∧ 1 ≤ n ∧ n ≤ 100000 ∧ z.length * n.toNat ≤ sizeLine ∧ Q (.str ⟨(List.replicate n.toNat z.cps).foldl (· ++ ·) #[]⟩) H) ∨ rRep x y H Q ∨ rRepX K x y H Q
theorem op_mulA : OpR X (binaryOp .Mult) (rMulA X.K) := op_mul.or (op_mul_strA.or (op_rep.or op_repX))
theorem opm_mul : OpM X (rMulA X.K) mulT := fun B H x y tx ty f1 f2 Q s hx hy g => by
  cases ty with
  | int n =>
    have ey := vrI hy
    subst ey
    have lst : ∀ {x : T} {v : V} {f : List Addr}, VR X.K B H x v f → GivesM X.K B H ((list? x).bind fun ts => if n.natAbs < 9223372036854775808 ∧ ts.length * n.toNat ≤ sizeLine then some (.own (List.replicate n.toNat ts).flatten) else none) Q → rMulA X.K v (.int n) H Q := fun {x v f} hx g => by
      cases z : list? x with
      | none => rw [z] at g; exact g.elim
      | some ts =>
        rw [z] at g
        replace g : GivesM X.K B H (if n.natAbs < 9223372036854775808 ∧ ts.length * n.toNat ≤ sizeLine then some (.own (List.replicate n.toNat ts).flatten) else none) Q := g
        by_cases c : n.natAbs < 9223372036854775808 ∧ ts.length * n.toNat ≤ sizeLine
        · rw [if_pos c] at g
          obtain ⟨a, vs, rfl, rx, qx⟩ := list_of s hx z
          exact .inr (.inr (.inl ⟨a, n, vs, rfl, rfl, qx, by omega, by omega, by rw [rx.length]; exact c.2, fun p hp => gvL g s (rx.reps _) p hp⟩))
        · rw [if_neg c] at g; exact g.elim
    cases tx with
    | int i =>
      have ex := vrI hx
      subst ex
      replace g : GivesM X.K B H (if i.natAbs < 18446744073709551616 ∨ n.natAbs < 18446744073709551616 then some (.int (i * n)) else none) Q := g
      by_cases c : i.natAbs < 18446744073709551616 ∨ n.natAbs < 18446744073709551616
      · rw [if_pos c] at g
        exact .inl ⟨i, n, rfl, rfl, by unfold CMul; omega, gvI g s⟩
      · rw [if_neg c] at g; exact g.elim
    | str z =>
      have ex := vrS hx
      subst ex
      replace g : GivesM X.K B H (if 1 ≤ n ∧ n.natAbs ≤ 100000 ∧ z.length * n.toNat ≤ sizeLine then some (.str ⟨(List.replicate n.toNat z.cps).foldl (· ++ ·) #[]⟩) else none) Q := g
      by_cases c : 1 ≤ n ∧ n.natAbs ≤ 100000 ∧ z.length * n.toNat ≤ sizeLine
      · rw [if_pos c] at g
        exact .inr (.inl ⟨z, n, rfl, rfl, c.1, by omega, c.2.2, gvS g s⟩)
      · rw [if_neg c] at g; exact g.elim
    | tup ts =>
      have hx0 := hx
      unfold VR at hx
      obtain ⟨rfl, a, vs, rfl, qx, rx⟩ := hx
      replace g : GivesM X.K B H (if 2 ≤ n ∧ n.natAbs ≤ 1000 ∧ ts.length ≤ 1000 then some (.tup (List.replicate n.toNat ts).flatten) else none) Q := g
      by_cases c : 2 ≤ n ∧ n.natAbs ≤ 1000 ∧ ts.length ≤ 1000
      · rw [if_pos c] at g
        refine .inr (.inr (.inr ⟨a, n, vs, rfl, rfl, same_sqT s qx, c.1, by omega, by rw [rx.length]; exact c.2.2, fun e => ?_, fun _ => gvT g s (rx.reps _)⟩))
        have : ts = [] := List.eq_nil_of_length_eq_zero (by rw [← rx.length, e]; rfl)
        subst this
        have e0 : (List.replicate n.toNat ([] : List T)).flatten = [] := by simp
        rw [e0] at g
        exact gv g s hx0
      · rw [if_neg c] at g; exact g.elim
    | lst ts => exact lst hx g
    | own ts => exact lst hx g
    | _ => exact g.elim
  | _ => cases tx <;> exact g.elim
def negT : T → Option T
  | .int i => some (.int (-i))
  | _ => none
def ltT : T → T → Option T
  | .int i, .int j => some (.bl (decide (i < j)))
  | .str i, .str j => some (.bl (decide (i.cps.toList < j.cps.toList)))
  | _, _ => none
abbrev rLtA : R2 := fun x y H Q => (∃ i j, x = .int i ∧ y = .int j ∧ Q (.bl (decide (i < j))) H) ∨ (∃ i j, x = .str i ∧ y = .str j ∧ Q (.bl (decide (i.cps.toList < j.cps.toList))) H)
theorem op_ltA : OpR X (compareOp .Lt) rLtA := op_lt.or op_lt_str
theorem opm_lt : OpM X rLtA ltT := fun B H x y tx ty f1 f2 Q s hx hy g => by
  cases tx <;> cases ty <;> first
    | exact False.elim g
    | exact Or.inl ⟨_, _, vrI hx, vrI hy, gvB g s⟩
    | exact Or.inr ⟨_, _, vrS hx, vrS hy, gvB g s⟩
theorem ltT_bl (x y t : T) (h : ltT x y = some t) : ∃ k, t = .bl k := by
  cases x <;> cases y <;> first | cases h; exact ⟨_, rfl⟩ | cases h
def leT : T → T → Option T
  | .int i, .int j => some (.bl (decide (i ≤ j)))
  | .str i, .str j => some (.bl (!decide (j.cps.toList < i.cps.toList)))
  | _, _ => none
def gtT : T → T → Option T
  | .int i, .int j => some (.bl (decide (j < i)))
  | .str i, .str j => some (.bl (decide (j.cps.toList < i.cps.toList)))
  | _, _ => none
abbrev rGtA : R2 := fun x y H Q => (∃ i j, x = .int i ∧ y = .int j ∧ Q (.bl (decide (j < i))) H) ∨ (∃ i j, x = .str i ∧ y = .str j ∧ Q (.bl (decide (j.cps.toList < i.cps.toList))) H)
theorem op_gtA : OpR X (compareOp .Gt) rGtA := op_gt.or op_gt_str
theorem opm_gt : OpM X rGtA gtT := fun B H x y tx ty f1 f2 Q s hx hy g => by
  cases tx <;> cases ty <;> first
    | exact False.elim g
    | exact Or.inl ⟨_, _, vrI hx, vrI hy, gvB g s⟩
    | exact Or.inr ⟨_, _, vrS hx, vrS hy, gvB g s⟩
theorem gtT_bl (x y t : T) (h : gtT x y = some t) : ∃ k, t = .bl k := by
  cases x <;> cases y <;> first | cases h; exact ⟨_, rfl⟩ | cases h
def geT : T → T → Option T
  | .int i, .int j => some (.bl (decide (j ≤ i)))
  | .str i, .str j => some (.bl (!decide (i.cps.toList < j.cps.toList)))
  | _, _ => none
abbrev rGeA : R2 := fun x y H Q => (∃ i j, x = .int i ∧ y = .int j ∧ Q (.bl (decide (j ≤ i))) H) ∨ (∃ i j, x = .str i ∧ y = .str j ∧ Q (.bl (!decide (i.cps.toList < j.cps.toList))) H)
theorem op_geA : OpR X (compareOp .GtE) rGeA := op_ge.or op_ge_str
theorem opm_ge : OpM X rGeA geT := fun B H x y tx ty f1 f2 Q s hx hy g => by
  cases tx <;> cases ty <;> first
    | exact False.elim g
    | exact Or.inl ⟨_, _, vrI hx, vrI hy, gvB g s⟩
    | exact Or.inr ⟨_, _, vrS hx, vrS hy, gvB g s⟩
theorem geT_bl (x y t : T) (h : geT x y = some t) : ∃ k, t = .bl k := by
  cases x <;> cases y <;> first | cases h; exact ⟨_, rfl⟩ | cases h
mutual
def toPy : T → PyData
  | .non => .none
  | .bl b => .bool b
  | .int i => .int i
  | .str s => .str s
  | .tup ts => .tuple (toPys ts)
  | .lst ts => .list (toPys ts)
  | .rol ts => .list (toPys ts)
  | .own ts => .list (toPys ts)
  | .dct _ => .dict []
  | .odc _ => .dict []
  | .yt _ => .dict []
  | .otp ts => .tuple (toPys ts)
def toPys : List T → List PyData
  | [] => []
  | t :: ts => toPy t :: toPys ts
end
mutual
theorem VR.dp (s : Same B H) : ∀ {t : T} {v : V} {f : List Addr}, VR K B H t v f → (toPy t).canLay0 = true → Dp K H v (toPy t)
  | .non, v, f, h, _ => by rw [vrN h]; unfold toPy; exact .non
  | .bl b, v, f, h, _ => by rw [vrB h]; unfold toPy; exact .bl b
  | .int b, v, f, h, _ => by rw [vrI h]; unfold toPy; exact .int b
  | .str b, v, f, h, _ => by rw [vrS h]; unfold toPy; exact .str b
  | .tup ts, v, f, h, n => by
    unfold VR at h
    unfold toPy at n ⊢
    obtain ⟨_, a, vs, rfl, q, r⟩ := h
    exact .tup (same_sqT s q) (VRs.dp s r (by simpa [PyData.canLay0] using n))
  | .lst ts, v, f, h, n => by
    unfold VR at h
    unfold toPy at n ⊢
    obtain ⟨_, a, vs, rfl, q, r⟩ := h
    exact .lst (.of (s _ _ q)) (VRs.dp s r (by simpa [PyData.canLay0] using n))
  | .rol ts, v, f, h, n => by
    unfold VR at h
    unfold toPy at n ⊢
    obtain ⟨_, a, vs, rfl, q, r⟩ := h
    exact .lst (s.seq q) (VRs.dp s r (by simpa [PyData.canLay0] using n))
  | .own ts, v, f, h, n => by
    unfold VR at h
    unfold toPy at n ⊢
    obtain ⟨a, vs, g, rfl, _, q, r⟩ := h
    exact .lst (.of q) (VRs.dp s r (by simpa [PyData.canLay0] using n))
  | .dct ts, v, f, h, n => by
    unfold toPy at n
    exact absurd n Bool.false_ne_true
  | .odc ts, v, f, h, n => by
    unfold toPy at n
    exact absurd n Bool.false_ne_true
  | .yt ts, v, f, h, n => by
    unfold toPy at n
    exact absurd n Bool.false_ne_true
  | .otp ts, v, f, h, n => by
    unfold VR at h
    unfold toPy at n ⊢
    obtain ⟨_, a, vs, rfl, q, r⟩ := h
    exact .tup (same_sqT s q) (VRs.dp s r (by simpa [PyData.canLay0] using n))
theorem VRs.dp (s : Same B H) : ∀ {ts : List T} {vs : List V} {f : List Addr}, VRs K B H ts vs f → PyData.canLayAll0 (toPys ts) = true → DpAll K H vs (toPys ts)
  | [], vs, f, h, _ => by
    unfold VRs at h
    rw [h.1]
    unfold toPys
    exact .nil
  | t :: ts, vs, f, h, n => by
    unfold VRs at h
    unfold toPys at n ⊢
    obtain ⟨v, r, f1, f2, rfl, _, h1, h2⟩ := h
    have n : ((toPy t).canLay0 && PyData.canLayAll0 (toPys ts)) = true := by simpa [PyData.canLayAll0] using n
    obtain ⟨n1, n2⟩ := Bool.and_eq_true_iff.mp n
    exact .cons (VR.dp s h1 n1) (VRs.dp s h2 n2)
end
def sv : T → Option V
  | .non => some .non
  | .bl b => some (.bl b)
  | .int i => some (.int i)
  | .str z => some (.str z)
  | _ => none
theorem sv_of {t : T} {v u : V} {f : List Addr} (h : VR K B H t v f) (e : sv t = some u) : v = u := by
  cases t <;> cases e
  · exact vrN h
  · exact vrB h
  · exact vrI h
  · exact vrS h
def eqB (x y : T) : Option Bool := match sv x, sv y with
  | some a, some b => if scal a b then some (decide (a = b)) else if SeqAt.shaped (toPy x) && SeqAt.shaped (toPy y) then some (PyData.eqv (toPy x) (toPy y)) else none
  | _, _ => if SeqAt.shaped (toPy x) && SeqAt.shaped (toPy y) then some (PyData.eqv (toPy x) (toPy y)) else none
def eqT (x y : T) : Option T := (eqB x y).map .bl
def neT (x y : T) : Option T := (eqB x y).map fun b => .bl (!b)
theorem eqB_cases {x y : T} {b : Bool} (h : eqB x y = some b) : (∃ a c, sv x = some a ∧ sv y = some c ∧ scal a c = true ∧ b = decide (a = c)) ∨ (SeqAt.shaped (toPy x) = true ∧ SeqAt.shaped (toPy y) = true ∧ b = PyData.eqv (toPy x) (toPy y)) := by
  have two : (if SeqAt.shaped (toPy x) && SeqAt.shaped (toPy y) then some (PyData.eqv (toPy x) (toPy y)) else none) = some b → SeqAt.shaped (toPy x) = true ∧ SeqAt.shaped (toPy y) = true ∧ b = PyData.eqv (toPy x) (toPy y) := fun h => by
    by_cases c : (SeqAt.shaped (toPy x) && SeqAt.shaped (toPy y)) = true
    · rw [if_pos c] at h
      obtain ⟨c1, c2⟩ := Bool.and_eq_true_iff.mp c
      exact ⟨c1, c2, (Option.some.inj h).symm⟩
    · rw [if_neg c] at h; cases h
  unfold eqB at h
  cases z1 : sv x with
  | none => rw [z1] at h; exact .inr (two h)
  | some a =>
    cases z2 : sv y with
    | none => rw [z1, z2] at h; exact .inr (two h)
    | some c =>
      rw [z1, z2] at h
      dsimp only at h
      by_cases k : scal a c = true
      · rw [if_pos k] at h
        exact .inl ⟨a, c, rfl, rfl, k, (Option.some.inj h).symm⟩
      · rw [if_neg k] at h; exact .inr (two h)
abbrev rEqA (K : PySem.W.Frag) : R2 := fun x y H Q => rEq x y H Q ∨ rEqD K x y H Q
abbrev rNeA (K : PySem.W.Frag) : R2 := fun x y H Q => rNe x y H Q ∨ rNeD K x y H Q
theorem op_eqA (hu : X.A.units + 64 < cLine) : OpR X (compareOp .Eq) (rEqA X.K) := op_eq.or (op_eqD hu)
theorem op_neA (hu : X.A.units + 64 < cLine) : OpR X (compareOp .NotEq) (rNeA X.K) := op_ne.or (op_neD hu)
theorem opm_eq : OpM X (rEqA X.K) eqT := fun B H x y tx ty f1 f2 Q s hx hy g => by
  unfold eqT at g
  cases z : eqB tx ty with
  | none => rw [z] at g; exact g.elim
  | some b =>
    rw [z] at g
    rcases eqB_cases z with ⟨a, c, e1, e2, k, rfl⟩ | ⟨s1, s2, rfl⟩
    · rw [sv_of hx e1, sv_of hy e2]
      exact .inl ⟨k, gvB g s⟩
    · exact .inr ⟨_, _, hx.dp s (SeqAt.canLay_of_shaped s1), hy.dp s (SeqAt.canLay_of_shaped s2), s1, s2, gvB g s⟩
theorem opm_ne : OpM X (rNeA X.K) neT := fun B H x y tx ty f1 f2 Q s hx hy g => by
  unfold neT at g
  cases z : eqB tx ty with
  | none => rw [z] at g; exact g.elim
  | some b =>
    rw [z] at g
    rcases eqB_cases z with ⟨a, c, e1, e2, k, rfl⟩ | ⟨s1, s2, rfl⟩
    · rw [sv_of hx e1, sv_of hy e2]
      exact .inl ⟨k, gvB g s⟩
    · exact .inr ⟨_, _, hx.dp s (SeqAt.canLay_of_shaped s1), hy.dp s (SeqAt.canLay_of_shaped s2), s1, s2, gvB g s⟩
theorem eqT_bl (x y t : T) (h : eqT x y = some t) : ∃ k, t = .bl k := by
  unfold eqT at h
  cases z : eqB x y with
  | none => rw [z] at h; cases h
  | some b => rw [z] at h; cases h; exact ⟨_, rfl⟩
theorem neT_bl (x y t : T) (h : neT x y = some t) : ∃ k, t = .bl k := by
  unfold neT at h
  cases z : eqB x y with
  | none => rw [z] at h; cases h
  | some b => rw [z] at h; cases h; exact ⟨_, rfl⟩
def isNonT : T → Bool
  | .non => true
  | _ => false
def isBlT : T → Bool → Bool
  | .bl c, b => c == b
  | _, _ => false
def isT (x y : T) : Option T := match y with
  | .non => some (.bl (isNonT x))
  | .bl b => some (.bl (isBlT x b))
  | _ => none
def isnT (x y : T) : Option T := (isT x y).bind fun t => match t with
  | .bl b => some (.bl (!b))
  | _ => none
theorem op_isBA : OpR X (compareOp .Is) (fun x y H Q => ∃ b, y = .bl b ∧ Q (.bl (decide (x = .bl b))) H) := by
  intro pins s σ H x y v u Q I rx ry h
  obtain ⟨b, rfl, q⟩ := h
  cases (show u = Value.bool b from ry)
  by_cases e : x = .bl b
  · subst e
    cases (show v = Value.bool b from rx)
    exact wpAny_is_self rfl ⟨.bl true, H, I, rfl, by simpa using q⟩
  · have ne : v ≠ Value.bool b := fun z => e (by subst z; exact (RelV.inj rx (show RelV (.bl b) (.bool b) from rfl)))
    have q2 : Q (.bl false) H := by simpa [e] using q
    cases x <;> first
      | (obtain ⟨t, rfl⟩ := rx; exact wpAny_is_other rfl ne ⟨.bl false, H, I, rfl, q2⟩)
      | (cases rx; exact wpAny_is_other rfl ne ⟨.bl false, H, I, rfl, q2⟩)
theorem op_isnBA : OpR X (compareOp .IsNot) (fun x y H Q => ∃ b, y = .bl b ∧ Q (.bl (!decide (x = .bl b))) H) := by
  intro pins s σ H x y v u Q I rx ry h
  obtain ⟨b, rfl, q⟩ := h
  cases (show u = Value.bool b from ry)
  by_cases e : x = .bl b
  · subst e
    cases (show v = Value.bool b from rx)
    exact wpAny_isNot_self rfl ⟨.bl false, H, I, rfl, by simpa using q⟩
  · have ne : v ≠ Value.bool b := fun z => e (by subst z; exact (RelV.inj rx (show RelV (.bl b) (.bool b) from rfl)))
    have q2 : Q (.bl true) H := by simpa [e] using q
    cases x <;> first
      | (obtain ⟨t, rfl⟩ := rx; exact wpAny_isNot_other rfl ne ⟨.bl true, H, I, rfl, q2⟩)
      | (cases rx; exact wpAny_isNot_other rfl ne ⟨.bl true, H, I, rfl, q2⟩)
abbrev rIsA : R2 := fun x y H Q => (y = .non ∧ Q (.bl (decide (x = .non))) H) ∨ ∃ b, y = .bl b ∧ Q (.bl (decide (x = .bl b))) H
abbrev rIsnA : R2 := fun x y H Q => (y = .non ∧ Q (.bl (!decide (x = .non))) H) ∨ ∃ b, y = .bl b ∧ Q (.bl (!decide (x = .bl b))) H
theorem op_isA : OpR X (compareOp .Is) rIsA := op_isN.or op_isBA
theorem op_isnA : OpR X (compareOp .IsNot) rIsnA := op_notN.or op_isnBA
theorem vr_is {x : T} {v : V} {f : List Addr} (h : VR K B H x v f) : decide (v = .non) = isNonT x ∧ ∀ b, decide (v = .bl b) = isBlT x b := by
  cases x with
  | non => rw [vrN h]; exact ⟨rfl, fun b => rfl⟩
  | bl c => rw [vrB h]; exact ⟨rfl, fun b => by rw [dec_bl]; rfl⟩
  | int c => rw [vrI h]; exact ⟨rfl, fun b => rfl⟩
  | str c => rw [vrS h]; exact ⟨rfl, fun b => rfl⟩
  | tup ts => unfold VR at h; obtain ⟨_, a, vs, rfl, _⟩ := h; exact ⟨rfl, fun b => rfl⟩
  | lst ts => unfold VR at h; obtain ⟨_, a, vs, rfl, _⟩ := h; exact ⟨rfl, fun b => rfl⟩
  | rol ts => unfold VR at h; obtain ⟨_, a, vs, rfl, _⟩ := h; exact ⟨rfl, fun b => rfl⟩
  | own ts => unfold VR at h; obtain ⟨a, vs, g, rfl, _⟩ := h; exact ⟨rfl, fun b => rfl⟩
  | dct ts => unfold VR at h; obtain ⟨_, a, vs, rfl, _⟩ := h; exact ⟨rfl, fun b => rfl⟩
  | odc ts => unfold VR at h; obtain ⟨a, vs, rfl, _⟩ := h; exact ⟨rfl, fun b => rfl⟩
  | yt ts => unfold VR at h; obtain ⟨_, a, vs, rfl, _⟩ := h; exact ⟨rfl, fun b => rfl⟩
  | otp ts => unfold VR at h; obtain ⟨_, a, vs, rfl, _⟩ := h; exact ⟨rfl, fun b => rfl⟩
theorem opm_is : OpM X rIsA isT := fun B H x y tx ty f1 f2 Q s hx hy g => by
  obtain ⟨h1, h2⟩ := vr_is hx
  cases ty with
  | non => exact .inl ⟨vrN hy, by rw [h1]; exact gvB g s⟩
  | bl b => exact .inr ⟨b, vrB hy, by rw [h2 b]; exact gvB g s⟩
  | _ => exact g.elim
theorem opm_isn : OpM X rIsnA isnT := fun B H x y tx ty f1 f2 Q s hx hy g => by
  obtain ⟨h1, h2⟩ := vr_is hx
  cases ty with
  | non => exact .inl ⟨vrN hy, by rw [h1]; exact gvB g s⟩
  | bl b => exact .inr ⟨b, vrB hy, by rw [h2 b]; exact gvB g s⟩
  | _ => exact g.elim
theorem isT_bl (x y t : T) (h : isT x y = some t) : ∃ k, t = .bl k := by
  cases y <;> first | (cases h; exact ⟨_, rfl⟩) | cases h
theorem isnT_bl (x y t : T) (h : isnT x y = some t) : ∃ k, t = .bl k := by
  unfold isnT at h
  cases z : isT x y with
  | none => rw [z] at h; cases h
  | some u =>
    obtain ⟨k, rfl⟩ := isT_bl x y u z
    rw [z] at h
    cases h
    exact ⟨_, rfl⟩
end
end Mir
namespace Mir
open PySem PySem.Spec L2
section
variable {X : Cx} {K : PySem.W.Frag} {B H : Hp}
def inS (s z : Str) : Bool := match s.cps.toList with
  | [c] => decide (c ∈ z.cps.toList)
  | _ => !(Builtin.Str.occurrences z s 0 z.length 1).isEmpty
def flatT : T → Bool
  | .non => true
  | .bl _ => true
  | .int _ => true
  | .str _ => true
  | _ => false
def flatTs : List T → Bool
  | [] => true
  | t :: ts => flatT t && flatTs ts
def eqF : T → T → Bool
  | .non, .non => true
  | .bl a, .bl b => a == b
  | .bl a, .int b => (if a then 1 else 0) == b
  | .int a, .bl b => a == (if b then 1 else 0)
  | .int a, .int b => a == b
  | .str a, .str b => a == b
  | _, _ => false
def anyF (x : T) : List T → Bool
  | [] => false
  | t :: ts => eqF t x || anyF x ts
def anyD (x : T) : List T → Bool
  | [] => false
  | t :: ts => PyData.eqv (toPy t) (toPy x) || anyD x ts
def inB (x c : T) : Option Bool := match x, c with
  | .str s, .str z => some (inS s z)
  | x, c => if flatT x = true then (flat? c).bind fun ts => if flatTs ts = true then some (anyF x ts) else none
    else (list? c).bind fun ts => if SeqAt.shaped (toPy x) = true ∧ SeqAt.shaped (.list (toPys ts)) = true then some (anyD x ts) else none
def inT (x c : T) : Option T := (inB x c).map .bl
def ninT (x c : T) : Option T := (inB x c).map fun b => .bl (!b)
theorem inT_bl (x y t : T) (h : inT x y = some t) : ∃ k, t = .bl k := by
  unfold inT at h
  cases z : inB x y with
  | none => rw [z] at h; cases h
  | some b => rw [z] at h; cases h; exact ⟨_, rfl⟩
theorem ninT_bl (x y t : T) (h : ninT x y = some t) : ∃ k, t = .bl k := by
  unfold ninT at h
  cases z : inB x y with
  | none => rw [z] at h; cases h
  | some b => rw [z] at h; cases h; exact ⟨_, rfl⟩
theorem flat_V {x : T} {v : V} {f : List Addr} (h : VR K B H x v f) (n : flatT x = true) : flatV v = true := by
  cases x with
  | non => rw [vrN h]; rfl
  | bl b => rw [vrB h]; rfl
  | int b => rw [vrI h]; rfl
  | str b => rw [vrS h]; rfl
  | _ => cases n
theorem eqF_V {x y : T} {v w : V} {f g : List Addr} (h : VR K B H x v f) (k : VR K B H y w g) (nx : flatT x = true) (ny : flatT y = true) : eqV v w = eqF x y := by
  cases x with
  | non => rw [vrN h]; cases y with
    | non => rw [vrN k]; rfl
    | bl b => rw [vrB k]; rfl
    | int b => rw [vrI k]; rfl
    | str b => rw [vrS k]; rfl
    | _ => cases ny
  | bl b => rw [vrB h]; cases y with
    | non => rw [vrN k]; rfl
    | bl b => rw [vrB k]; rfl
    | int b => rw [vrI k]; rfl
    | str b => rw [vrS k]; rfl
    | _ => cases ny
  | int b => rw [vrI h]; cases y with
    | non => rw [vrN k]; rfl
    | bl b => rw [vrB k]; rfl
    | int b => rw [vrI k]; rfl
    | str b => rw [vrS k]; rfl
    | _ => cases ny
  | str b => rw [vrS h]; cases y with
    | non => rw [vrN k]; rfl
    | bl b => rw [vrB k]; rfl
    | int b => rw [vrI k]; rfl
    | str b => rw [vrS k]; rfl
    | _ => cases ny
  | _ => cases nx
theorem anyF_V {x : T} {v : V} {f : List Addr} (h : VR K B H x v f) (nx : flatT x = true) : ∀ {ts : List T} {vs : List V} {g : List Addr}, VRs K B H ts vs g → flatTs ts = true → vs.all flatV = true ∧ inV v vs = anyF x ts
  | [], vs, g, r, _ => by
    unfold VRs at r
    rw [r.1]
    exact ⟨rfl, rfl⟩
  | t :: ts, vs, g, r, n => by
    unfold VRs at r
    obtain ⟨w, ws, f1, f2, rfl, _, h1, h2⟩ := r
    obtain ⟨n1, n2⟩ := Bool.and_eq_true_iff.mp n
    obtain ⟨a, b⟩ := anyF_V h nx h2 n2
    refine ⟨?_, ?_⟩
    · rw [List.all_cons, flat_V h1 n1, a]; rfl
    · unfold inV at b ⊢
      rw [List.any_cons, eqF_V h1 h n1 nx, b]; rfl
theorem anyD_list (x : T) : ∀ ts : List T, ((toPys ts).any fun z => PyData.eqv z (toPy x)) = anyD x ts
  | [] => by unfold toPys; rfl
  | t :: ts => by
    unfold toPys
    rw [List.any_cons, anyD_list x ts]; rfl
abbrev rInA (K : PySem.W.Frag) : R2 := fun x y H Q => (∃ (c : Nat) (z : Str), x = .str ⟨#[c]⟩ ∧ y = .str z ∧ Q (.bl (decide (c ∈ z.cps.toList))) H) ∨ (∃ i j, x = .str i ∧ y = .str j ∧ Q (.bl (!(Builtin.Str.occurrences j i 0 j.length 1).isEmpty)) H) ∨ rIn K false x y H Q ∨ rInD K x y H Q
abbrev rNinA (K : PySem.W.Frag) : R2 := fun x y H Q => (∃ (c : Nat) (z : Str), x = .str ⟨#[c]⟩ ∧ y = .str z ∧ Q (.bl (!decide (c ∈ z.cps.toList))) H) ∨ (∃ i j, x = .str i ∧ y = .str j ∧ Q (.bl (!(!(Builtin.Str.occurrences j i 0 j.length 1).isEmpty))) H) ∨ rIn K true x y H Q ∨ rNotInD K x y H Q
theorem op_inA (hu : X.A.units + 65 < cLine) : OpR X (compareOp .In) (rInA X.K) := op_in_sign.or (op_in_str.or (op_in_seq.or (op_inD hu)))
theorem op_ninA (hu : X.A.units + 65 < cLine) : OpR X (compareOp .NotIn) (rNinA X.K) := op_notIn_sign.or (op_notIn_str.or (op_notIn_seq.or (op_notInD hu)))
theorem inB_cases {x c : T} {b : Bool} (h : inB x c = some b) : (∃ s z, x = .str s ∧ c = .str z ∧ b = inS s z) ∨ (∃ ts, flatT x = true ∧ flat? c = some ts ∧ flatTs ts = true ∧ b = anyF x ts) ∨ ∃ ts, list? c = some ts ∧ SeqAt.shaped (toPy x) = true ∧ SeqAt.shaped (.list (toPys ts)) = true ∧ b = anyD x ts := by
  have gen : ∀ {x c : T}, (if flatT x = true then (flat? c).bind fun ts => if flatTs ts = true then some (anyF x ts) else none
    else (list? c).bind fun ts => if SeqAt.shaped (toPy x) = true ∧ SeqAt.shaped (.list (toPys ts)) = true then some (anyD x ts) else none) = some b → (∃ ts, flatT x = true ∧ flat? c = some ts ∧ flatTs ts = true ∧ b = anyF x ts) ∨ ∃ ts, list? c = some ts ∧ SeqAt.shaped (toPy x) = true ∧ SeqAt.shaped (.list (toPys ts)) = true ∧ b = anyD x ts := fun {x c} h => by
    by_cases n : flatT x = true
    · rw [if_pos n] at h
      cases z : flat? c with
      | none => rw [z] at h; cases h
      | some ts =>
        rw [z] at h
        replace h : (if flatTs ts = true then some (anyF x ts) else none) = some b := h
        by_cases m : flatTs ts = true
        · rw [if_pos m] at h; exact .inl ⟨ts, n, rfl, m, (Option.some.inj h).symm⟩
        · rw [if_neg m] at h; cases h
    · rw [if_neg n] at h
      cases z : list? c with
      | none => rw [z] at h; cases h
      | some ts =>
        rw [z] at h
        replace h : (if SeqAt.shaped (toPy x) = true ∧ SeqAt.shaped (.list (toPys ts)) = true then some (anyD x ts) else none) = some b := h
        by_cases m : SeqAt.shaped (toPy x) = true ∧ SeqAt.shaped (.list (toPys ts)) = true
        · rw [if_pos m] at h; exact .inr ⟨ts, rfl, m.1, m.2, (Option.some.inj h).symm⟩
        · rw [if_neg m] at h; cases h
  cases x with
  | str s =>
    cases c with
    | str z => cases h; exact .inl ⟨s, z, rfl, rfl, rfl⟩
    | _ => exact .inr (gen h)
  | _ => exact .inr (gen (by simpa only [inB] using h))
theorem inS_one {c : Nat} {s z : Str} (h : s.cps.toList = [c]) : s = ⟨#[c]⟩ ∧ inS s z = decide (c ∈ z.cps.toList) := by
  refine ⟨?_, by unfold inS; rw [h]⟩
  cases s with
  | mk a =>
    have : a = #[c] := by
      have h : a.toList = [c] := h
      rw [← Array.toArray_toList (xs := a), h]
    rw [this]
theorem inS_more {s z : Str} (h : ∀ c, s.cps.toList ≠ [c]) : inS s z = !(Builtin.Str.occurrences z s 0 z.length 1).isEmpty := by
  unfold inS
  split
  · rename_i c hc; exact absurd hc (h c)
  · rfl
theorem dp_list (s : Same B H) {c : T} {v : V} {f : List Addr} {ts : List T} (h : VR K B H c v f) (e : list? c = some ts) (n : SeqAt.shaped (.list (toPys ts)) = true) : Dp K H v (.list (toPys ts)) := by
  obtain ⟨a, vs, rfl, r, q⟩ := list_of s h e
  have := SeqAt.canLay_of_shaped n
  exact .lst (.of q) (VRs.dp s r (by simpa [PyData.canLay0] using this))
theorem opm_in : OpM X (rInA X.K) inT := fun B H x y tx ty f1 f2 Q s hx hy g => by
  unfold inT at g
  cases z : inB tx ty with
  | none => rw [z] at g; exact g.elim
  | some b =>
    rw [z] at g
    have q : Q (.bl b) H := gvB g s
    rcases inB_cases z with ⟨u, w, rfl, rfl, rfl⟩ | ⟨ts, n, e, m, rfl⟩ | ⟨ts, e, s1, s2, rfl⟩
    · rw [vrS hx, vrS hy]
      by_cases c : ∃ c, u.cps.toList = [c]
      · obtain ⟨c, hc⟩ := c
        obtain ⟨e1, e2⟩ := inS_one (z := w) hc
        exact .inl ⟨c, w, by rw [← e1], rfl, by rw [← e2]; exact q⟩
      · exact .inr (.inl ⟨u, w, rfl, rfl, by rw [← inS_more fun d hd => c ⟨d, hd⟩]; exact q⟩)
    · obtain ⟨a, vs, rfl, r, k⟩ := flat_of s hy e
      obtain ⟨h1, h2⟩ := anyF_V hx n r m
      exact .inr (.inr (.inl ⟨a, vs, rfl, k, flat_V hx n, h1, by rw [if_neg Bool.false_ne_true, h2]; exact q⟩))
    · exact .inr (.inr (.inr ⟨_, _, hx.dp s (SeqAt.canLay_of_shaped s1), dp_list s hy e s2, s1, s2, by rw [anyD_list]; exact q⟩))
theorem opm_nin : OpM X (rNinA X.K) ninT := fun B H x y tx ty f1 f2 Q s hx hy g => by
  unfold ninT at g
  cases z : inB tx ty with
  | none => rw [z] at g; exact g.elim
  | some b =>
    rw [z] at g
    have q : Q (.bl (!b)) H := gvB g s
    rcases inB_cases z with ⟨u, w, rfl, rfl, rfl⟩ | ⟨ts, n, e, m, rfl⟩ | ⟨ts, e, s1, s2, rfl⟩
    · rw [vrS hx, vrS hy]
      by_cases c : ∃ c, u.cps.toList = [c]
      · obtain ⟨c, hc⟩ := c
        obtain ⟨e1, e2⟩ := inS_one (z := w) hc
        exact .inl ⟨c, w, by rw [← e1], rfl, by rw [← e2]; exact q⟩
      · exact .inr (.inl ⟨u, w, rfl, rfl, by rw [← inS_more fun d hd => c ⟨d, hd⟩]; exact q⟩)
    · obtain ⟨a, vs, rfl, r, k⟩ := flat_of s hy e
      obtain ⟨h1, h2⟩ := anyF_V hx n r m
      exact .inr (.inr (.inl ⟨a, vs, rfl, k, flat_V hx n, h1, by rw [if_pos rfl, h2]; exact q⟩))
    · exact .inr (.inr (.inr ⟨_, _, hx.dp s (SeqAt.canLay_of_shaped s1), dp_list s hy e s2, s1, s2, by rw [anyD_list]; exact q⟩))
theorem vrs1 {t : T} {vs : List V} {f : List Addr} (h : VRs K B H [t] vs f) : ∃ v, vs = [v] ∧ VR K B H t v f := by
  unfold VRs at h
  obtain ⟨v, r, f1, f2, rfl, rfl, h1, h2⟩ := h
  unfold VRs at h2
  obtain ⟨rfl, rfl⟩ := h2
  exact ⟨v, rfl, by rw [List.append_nil]; exact h1⟩
theorem vrs2 {t u : T} {vs : List V} {f : List Addr} (h : VRs K B H [t, u] vs f) : ∃ v w f1 f2, vs = [v, w] ∧ VR K B H t v f1 ∧ VR K B H u w f2 := by
  unfold VRs at h
  obtain ⟨v, r, f1, f2, rfl, rfl, h1, h2⟩ := h
  obtain ⟨w, rfl, h3⟩ := vrs1 h2
  exact ⟨v, w, f1, f2, rfl, h1, h3⟩
def f1 (f : T → Option T) : List T → Option T
  | [x] => f x
  | _ => none
def f2 (f : T → T → Option T) : List T → Option T
  | [x, y] => f x y
  | _ => none
theorem callm1 {r : List V → Hp → VK → Prop} {f : T → Option T} (h : ∀ B H x tx fx t Q, Same B H → VR X.K B H tx x fx → f tx = some t → GivesM X.K B H (some t) Q → r [x] H Q) : CallM X r (f1 f) := fun B H vs ts fs Q s hv g => by
  match ts, hv, g with
  | [t], hv, g =>
    obtain ⟨v, rfl, h1⟩ := vrs1 hv
    replace g : GivesM X.K B H (f t) Q := g
    cases z : f t with
    | none => rw [z] at g; exact g.elim
    | some u => rw [z] at g; exact h B H v t fs u Q s h1 z g
  | [], _, g => exact g.elim
  | _ :: _ :: _, _, g => exact g.elim
theorem callm2 {r : List V → Hp → VK → Prop} {f : T → T → Option T} (h : ∀ B H x y tx ty fx fy t Q, Same B H → VR X.K B H tx x fx → VR X.K B H ty y fy → f tx ty = some t → GivesM X.K B H (some t) Q → r [x, y] H Q) : CallM X r (f2 f) := fun B H vs ts fs Q s hv g => by
  match ts, hv, g with
  | [t, u], hv, g =>
    obtain ⟨v, w, g1, g2, rfl, h1, h2⟩ := vrs2 hv
    replace g : GivesM X.K B H (f t u) Q := g
    cases z : f t u with
    | none => rw [z] at g; exact g.elim
    | some k => rw [z] at g; exact h B H v w t u g1 g2 k Q s h1 h2 z g
  | [], _, g => exact g.elim
  | [_], _, g => exact g.elim
  | _ :: _ :: _ :: _, _, g => exact g.elim
def lenT : T → Option T
  | .str s => if s.length ≤ sizeLine then some (.int (s.length : Nat)) else none
  | x => (items? x).map fun ts => .int (ts.length : Nat)
theorem cm_len : CallM X (fun xs H Q => ∃ x n, xs = [x] ∧ LenV X.K x H n ∧ Q (.int n) H) (f1 lenT) := callm1 fun B H x tx fx t Q s h e g => by
  cases tx with
  | str z =>
    rw [vrS h]
    replace e : (if z.length ≤ sizeLine then some (.int (z.length : Nat)) else none) = some t := e
    by_cases c : z.length ≤ sizeLine
    · rw [if_pos c] at e; cases e
      exact ⟨_, z.length, rfl, ⟨c, rfl⟩, gvI g s⟩
    · rw [if_neg c] at e; cases e
  | tup ts =>
    cases e
    unfold VR at h; obtain ⟨_, a, vs, rfl, q, r⟩ := h
    exact ⟨_, ts.length, rfl, .inr ⟨vs, same_sqT s q, r.length.symm⟩, gvI g s⟩
  | lst ts =>
    cases e
    unfold VR at h; obtain ⟨_, a, vs, rfl, q, r⟩ := h
    exact ⟨_, ts.length, rfl, .inl ⟨vs, .of (s _ _ q), r.length.symm⟩, gvI g s⟩
  | rol ts =>
    cases e
    unfold VR at h; obtain ⟨_, a, vs, rfl, q, r⟩ := h
    exact ⟨_, ts.length, rfl, .inl ⟨vs, s.seq q, r.length.symm⟩, gvI g s⟩
  | own ts =>
    cases e
    unfold VR at h; obtain ⟨a, vs, k, rfl, _, q, r⟩ := h
    exact ⟨_, ts.length, rfl, .inl ⟨vs, .of q, r.length.symm⟩, gvI g s⟩
  | otp ts =>
    cases e
    unfold VR at h; obtain ⟨_, a, vs, rfl, q, r⟩ := h
    exact ⟨_, ts.length, rfl, .inr ⟨vs, same_sqT s q, r.length.symm⟩, gvI g s⟩
  | _ => cases e
def intT : T → Option T
  | .int i => some (.int i)
  | .bl k => some (.int (if k then 1 else 0))
  | _ => none
theorem cm_int : CallM X (fun xs H Q => (∃ i, xs = [.int i] ∧ Q (.int i) H) ∨ ∃ k, xs = [.bl k] ∧ Q (.int (if k then 1 else 0)) H) (f1 intT) := callm1 fun B H x tx fx t Q s h e g => by
  cases tx with
  | int i => cases e; rw [vrI h]; exact .inl ⟨i, rfl, gvI g s⟩
  | bl i => cases e; rw [vrB h]; exact .inr ⟨i, rfl, gvI g s⟩
  | _ => cases e
def absT : T → Option T
  | .int i => some (.int (if i < 0 then -i else i))
  | _ => none
def maxT : T → T → Option T := i2 fun i j => some (.int (if j > i then j else i))
def minT : T → T → Option T := i2 fun i j => some (.int (if j < i then j else i))
theorem cm_max : CallM X (fun xs H Q => ∃ i j, xs = [.int i, .int j] ∧ Q (.int (if j > i then j else i)) H) (f2 maxT) := callm2 fun B H x y tx ty fx fy t Q s hx hy e g => by
  obtain ⟨i, j, rfl, rfl, e⟩ := i2_ok e
  cases e
  rw [vrI hx, vrI hy]
  exact ⟨i, j, rfl, gvI g s⟩
theorem cm_min : CallM X (fun xs H Q => ∃ i j, xs = [.int i, .int j] ∧ Q (.int (if j < i then j else i)) H) (f2 minT) := callm2 fun B H x y tx ty fx fy t Q s hx hy e g => by
  obtain ⟨i, j, rfl, rfl, e⟩ := i2_ok e
  cases e
  rw [vrI hx, vrI hy]
  exact ⟨i, j, rfl, gvI g s⟩
def tupT : T → Option T
  | .tup ts => some (.tup ts)
  | x => (alist? x).map .tup
theorem cm_tup : CallM X (fun xs H Q => ∃ p ys, xs = [.ref p] ∧ ((SqL X.K H p ys ∧ NewT Q H ys) ∨ (SqT X.K H p ys ∧ Q (.ref p) H))) (f1 tupT) := callm1 fun B H x tx fx t Q s h e g => by
  by_cases c : ∃ ts, tx = .tup ts
  · obtain ⟨ts, rfl⟩ := c
    cases e
    have h0 := h
    unfold VR at h
    obtain ⟨rfl, a, vs, rfl, q, r⟩ := h
    exact ⟨a, vs, rfl, .inr ⟨same_sqT s q, gv g s h0⟩⟩
  · have e2 : (alist? tx).map .tup = some t := by
      rw [← e]
      unfold tupT
      split
      · exact absurd ⟨_, rfl⟩ c
      · rfl
    cases z : alist? tx with
    | none => rw [z] at e2; cases e2
    | some ts =>
      rw [z] at e2
      cases e2
      obtain ⟨a, vs, rfl, r, q⟩ := alist_of s h z
      exact ⟨a, vs, rfl, .inl ⟨q, gvT g s r⟩⟩
def lisT : T → Option T := fun x => (flat? x).map .own
theorem cm_list : CallM X (fun xs H Q => ∃ p ys, xs = [.ref p] ∧ (SqL X.K H p ys ∨ SqT X.K H p ys) ∧ ∀ l, H l = none → Q (.ref l) (upd H l (.lst ys))) (f1 lisT) := callm1 fun B H x tx fx t Q s h e g => by
  unfold lisT at e
  cases z : flat? tx with
  | none => rw [z] at e; cases e
  | some ts =>
    rw [z] at e
    cases e
    obtain ⟨a, vs, rfl, r, q⟩ := flat_of s h z
    exact ⟨a, vs, rfl, q, fun p hp => gvL g s r p hp⟩
def tyN : T → String
  | .non => "NoneType" | .bl _ => "bool" | .int _ => "int" | .str _ => "str" | .tup _ => "tuple" | .lst _ => "list" | .rol _ => "list" | .own _ => "list" | .dct _ => "dict" | .odc _ => "dict" | .yt _ => "tuple" | .otp _ => "tuple"
def isiT (n : String) (x : T) : Option T := (kitB (tyN x) n).map .bl
theorem tyX_seqT {a : Addr} {vs : List V} (h : SqT K H a vs) : TyX K H (.ref a) (.type "tuple") := by
  rcases h with (h | ⟨o, h⟩) | ⟨o, its, n, h, c, _⟩
  · exact .base (.tup h)
  · exact .fTuple h
  · exact .kTuple h c
theorem tyX_seqL {a : Addr} {vs : List V} (h : SqL K H a vs) : TyX K H (.ref a) (.type "list") := by
  rcases h with (h | ⟨o, h⟩) | ⟨o, its, n, h, c, _⟩
  · exact .base (.lst h)
  · exact .base (.frz h)
  · exact .kList h c
theorem tyX_of {x : T} {v : V} {f : List Addr} (s : Same B H) (h : VR K B H x v f) : TyX K H v (.type (tyN x)) := by
  cases x with
  | non => rw [vrN h]; exact .base .non
  | bl c => rw [vrB h]; exact .base (.bl c)
  | int c => rw [vrI h]; exact .base (.int c)
  | str c => rw [vrS h]; exact .base (.str c)
  | tup ts => unfold VR at h; obtain ⟨_, a, vs, rfl, q, _⟩ := h; exact tyX_seqT (same_sqT s q)
  | lst ts => unfold VR at h; obtain ⟨_, a, vs, rfl, q, _⟩ := h; exact .base (.lst (s _ _ q))
  | rol ts => unfold VR at h; obtain ⟨_, a, vs, rfl, q, _⟩ := h; exact tyX_seqL (s.seq q)
  | own ts => unfold VR at h; obtain ⟨a, vs, g, rfl, _, q, _⟩ := h; exact .base (.lst q)
  | dct ts =>
    unfold VR at h
    obtain ⟨_, a, vs, rfl, q, _⟩ := h
    rcases q with q | ⟨o, q⟩
    · exact .base (.dK (s _ _ q))
    · exact .fDict (s _ _ q)
  | odc ts => unfold VR at h; obtain ⟨a, vs, rfl, _, q, _⟩ := h; exact .base (.dK q)
  | yt ts => unfold VR at h; obtain ⟨_, a, vs, rfl, q, _⟩ := h; exact tyX_seqT (same_sq0 s q)
  | otp ts => unfold VR at h; obtain ⟨_, a, vs, rfl, q, _⟩ := h; exact tyX_seqT (same_sqT s q)
theorem me_isi {W : WZ} {a e : Expr} {n : String} {s1 m1 : List Nat} {ma : E} (pe : ∀ {ta : TE}, PE X a ta → PE X e (tCB (rIsi X.K) (tCons ta (tCons (tC (.ty n)) tNil)))) (ha : ME X W a s1 m1 ma) : ME X W e [] m1 (una (isiT n) ma) := by
  obtain ⟨t1, h1, k1⟩ := ha
  refine ⟨_, pe h1, fun B H env σ fp Q rl p => ?_⟩
  show t1 σ H fun x H1 => rIsi X.K [x, .ty n] H1 Q
  refine k1 B H env σ fp _ rl ?_
  unfold una at p
  cases z1 : ma env with
  | no => rw [z1] at p; exact p
  | ex x e1 => rw [z1] at p; exact p
  | ok u e1 =>
    rw [z1] at p
    intro v B1 H1 fp1 f1 r1 fr1 g1
    have q := gives_post r1 fr1 (show PostE X.K X.mg W σ B H fp [] m1 (optR (isiT n u) e1) Q from p)
    unfold isiT at q
    cases z : kitB (tyN u) n with
    | none => rw [z] at q; exact q.elim
    | some b =>
      rw [z] at q
      exact ⟨v, .ty n, _, _, b, rfl, .ty n, tyX_of r1.sub g1.vr, kit_ty z, gvB q r1.sub⟩
def repT (x : T) : Option T := if (toPy x).showable = true ∧ (toPy x).canLay0 = true ∧ (toPy x).depth ≤ 64 ∧ (toPy x).shown.length ≤ sizeLine then some (.str (toPy x).shown) else none
abbrev rRepr (K : PySem.W.Frag) : List V → Hp → VK → Prop := fun xs H Q => ∃ v d, xs = [v] ∧ Dp K H v d ∧ d.showable = true ∧ d.canLay0 = true ∧ d.depth ≤ 64 ∧ d.shown.length ≤ sizeLine ∧ Q (.str d.shown) H
theorem cr_repr (hgd : X.A.guards = some []) (hu : X.A.units + 100 < cLine) : CallR X (.builtin "repr") (rRepr X.K) := by
  intro pins s σ H vs us Q I rv h
  obtain ⟨v, d, rfl, dp, h1, h2, h3, h4, q⟩ := h
  obtain ⟨u, rfl, r⟩ := vals1 rv
  cases dp with
  | non => cases r; exact PySem.P.repr_of_none ⟨.str _, H, I.tok _, ⟨_, rfl⟩, q⟩
  | bl b => cases r; exact PySem.P.repr_of_bool ⟨.str _, H, I.tok _, ⟨_, rfl⟩, q⟩
  | int i =>
    obtain ⟨t, rfl⟩ := r
    exact PySem.P.repr_of_int (by simpa [PyData.showable] using h1) ⟨.str _, H, I.tok _, ⟨_, rfl⟩, q⟩
  | str x =>
    obtain ⟨t, rfl⟩ := r
    exact PySem.P.repr_of_str ⟨.str _, H, I.tok _, ⟨_, rfl⟩, q⟩ (hsz := h4)
  | @lst a xs ds hl hd =>
    cases r
    obtain ⟨as, rd⟩ := Dp.reads I _ _ _ (Dp.lst hl hd) rfl
    exact repr_of_reads' rd h1 (fun z => by rw [PyData.hasDict_of_canLay _ h2] at z; cases z) hgd (by omega) (fun _ _ z => z) (fun h' u tk k => ⟨.str _, H, I.kept (t' := tk) k, ⟨_, rfl⟩, q⟩) (hsz := h4)
  | @tup a xs ds hl hd =>
    cases r
    obtain ⟨as, rd⟩ := Dp.reads I _ _ _ (Dp.tup hl hd) rfl
    exact repr_of_reads' rd h1 (fun z => by rw [PyData.hasDict_of_canLay _ h2] at z; cases z) hgd (by omega) (fun _ _ z => z) (fun h' u tk k => ⟨.str _, H, I.kept (t' := tk) k, ⟨_, rfl⟩, q⟩) (hsz := h4)
theorem cm_repr : CallM X (rRepr X.K) (f1 repT) := callm1 fun B H x tx fx t Q s h e g => by
  unfold repT at e
  by_cases c : (toPy tx).showable = true ∧ (toPy tx).canLay0 = true ∧ (toPy tx).depth ≤ 64 ∧ (toPy tx).shown.length ≤ sizeLine
  · rw [if_pos c] at e; cases e
    exact ⟨x, _, rfl, h.dp s c.2.1, c.1, c.2.1, c.2.2.1, c.2.2.2, gvS g s⟩
  · rw [if_neg c] at e; cases e
end
end Mir
namespace Mir
open PySem PySem.Spec L2
section
variable {X : Cx} {W : WZ} {K : PySem.W.Frag} {B H : Hp}
abbrev OI := Env → R (Option Int)
def PostO (K : PySem.W.Frag) (mg : Str → Option Value) (W : WZ) (σ : St) (B H : Hp) (fp : Fp) (ms : List Nat) (r : R (Option Int)) (Q : Option Int → Hp → Prop) : Prop := match r with
  | .ok b e => ∀ B' H' fp', Rel W.z K B' H' e σ fp' → Fr ms B H fp B' H' fp' → Q b H'
  | .ex x e => ∀ cls d B' H' fp', Rel W.z K B' H' e σ fp' → Fr ms B H fp B' H' fp' → ExR K mg B' x cls d → W.w cls d σ H'
  | .no => False
def MO (X : Cx) (W : WZ) (e : Option Expr) (ms : List Nat) (m : OI) : Prop := ∃ t : TO, PO X e t ∧ ∀ B H env σ fp Q, Rel W.z X.K B H env σ fp → PostO X.K X.mg W σ B H fp ms (m env) Q → t σ H Q
def noI : OI := fun e => .ok none e
def intOf : T → Option (Option Int)
  | .int i => some (some i)
  | _ => none
def soI (m : E) : OI := fun e => (m e).bind fun t e1 => optR (intOf t) e1
theorem mo_none : MO X W none [] noI := ⟨_, po_none, fun B H env σ fp Q r p => p B H fp r .refl⟩
theorem mo_some {e : Expr} {srcs ms : List Nat} {m : E} (h : ME X W e srcs ms m) : MO X W (some e) ms (soI m) := by
  obtain ⟨t, ht, hm⟩ := h
  refine ⟨_, po_some ht, fun B H env σ fp Q r p => ?_⟩
  refine hm B H env σ fp _ r ?_
  unfold soI at p
  cases z : m env with
  | no => rw [z] at p; exact p
  | ex x e1 => rw [z] at p; exact p
  | ok u e1 =>
    rw [z] at p
    intro v B1 H1 fp1 f r1 fr1 g1
    cases u with
    | int i => exact ⟨i, vrI g1.vr, p B1 H1 fp1 r1 fr1⟩
    | _ => exact p.elim
def cutT (xs : List T) (lo hi : Option Int) : List T := (xs.drop (HT.sIx xs.length 0 lo)).take (HT.sIx xs.length xs.length hi - HT.sIx xs.length 0 lo)
theorem VRs.drop : ∀ {ts : List T} {vs : List V} (n : Nat), VRs K B H ts vs [] → VRs K B H (ts.drop n) (vs.drop n) []
  | ts, vs, 0, h => h
  | [], vs, n + 1, h => by
    unfold VRs at h
    rw [h.1]
    unfold List.drop VRs
    exact ⟨rfl, rfl⟩
  | t :: ts, vs, n + 1, h => by
    unfold VRs at h
    obtain ⟨v, r, f1, f2, rfl, ef, h1, h2⟩ := h
    obtain ⟨rfl, rfl⟩ := List.append_eq_nil_iff.mp ef.symm
    exact VRs.drop n h2
theorem VRs.take : ∀ {ts : List T} {vs : List V} (n : Nat), VRs K B H ts vs [] → VRs K B H (ts.take n) (vs.take n) []
  | ts, vs, 0, h => by
    rw [List.take_zero, List.take_zero]
    unfold VRs
    exact ⟨rfl, rfl⟩
  | [], vs, n + 1, h => by
    unfold VRs at h
    rw [h.1]
    unfold List.take VRs
    exact ⟨rfl, rfl⟩
  | t :: ts, vs, n + 1, h => by
    unfold VRs at h
    obtain ⟨v, r, f1, f2, rfl, ef, h1, h2⟩ := h
    obtain ⟨rfl, rfl⟩ := List.append_eq_nil_iff.mp ef.symm
    show VRs K B H (t :: ts.take n) (v :: r.take n) []
    unfold VRs
    exact ⟨v, r.take n, [], [], rfl, rfl, h1, VRs.take n h2⟩
theorem VRs.cut {ts : List T} {vs : List V} (lo hi : Option Int) (h : VRs K B H ts vs []) : VRs K B H (cutT ts lo hi) (cutV vs lo hi) [] := by
  unfold cutT cutV
  rw [h.length]
  exact (h.drop _).take _
def slT (x : T) (lo hi : Option Int) : Option T := match x with
  | .str z => if z.length ≤ sizeLine then some (.str (cutS z lo hi)) else none
  | .tup ts => some (.tup (cutT ts lo hi))
  | x => (alist? x).map fun ts => .own (cutT ts lo hi)
abbrev rSlU (K : PySem.W.Frag) : V → Option Int → Option Int → Hp → VK → Prop := fun x lo hi H Q => rSlS x lo hi H Q ∨ rSlX K x lo hi H Q ∨ rSlL K x lo hi H Q
theorem sl_u : SlR X (rSlU X.K) := sl_str.or (sl_tupX.or sl_list)
theorem sl_of {x : T} {v : V} {f : List Addr} {lo hi : Option Int} {t : T} {Q : VK} (s : Same B H) (h : VR K B H x v f) (e : slT x lo hi = some t) (g : GivesM K B H (some t) Q) : rSlU K v lo hi H Q := by
  by_cases c1 : ∃ z, x = .str z
  · obtain ⟨z, rfl⟩ := c1
    replace e : (if z.length ≤ sizeLine then some (T.str (cutS z lo hi)) else none) = some t := e
    by_cases c : z.length ≤ sizeLine
    · rw [if_pos c] at e; cases e
      exact .inl ⟨z, vrS h, c, gvS g s⟩
    · rw [if_neg c] at e; cases e
  · by_cases c2 : ∃ ts, x = .tup ts
    · obtain ⟨ts, rfl⟩ := c2
      cases e
      have h0 := h
      unfold VR at h
      obtain ⟨rfl, a, vs, rfl, q, r⟩ := h
      refine .inr (.inl ⟨a, vs, rfl, same_sqT s q, fun c => ?_, fun c => gvT g s (r.cut lo hi)⟩)
      have : cutT ts lo hi = ts := by
        unfold cutT
        rw [← r.length, c.1, c.2]
        simp [r.length]
      rw [this] at g
      exact gv g s h0
    · have e2 : ((alist? x).map fun ts => T.own (cutT ts lo hi)) = some t := by
        rw [← e]
        unfold slT
        split
        · exact absurd ⟨_, rfl⟩ c1
        · exact absurd ⟨_, rfl⟩ c2
        · rfl
      cases z : alist? x with
      | none => rw [z] at e2; cases e2
      | some ts =>
        rw [z] at e2; cases e2
        obtain ⟨a, vs, rfl, r, q⟩ := alist_of s h z
        exact .inr (.inr ⟨a, vs, rfl, q, fun p hp => gvL g s (r.cut lo hi) p hp⟩)
def slE (m : E) (lo hi : OI) : E := fun e => (m e).bind fun x e1 => (lo e1).bind fun l e2 => (hi e2).bind fun u e3 => optR (slT x l u) e3
theorem me_slice {e : Expr} {lo hi : Option Expr} {s1 m1 m2 m3 : List Nat} {m : E} {l u : OI} {p2 pos : Pos} (he : ME X W e s1 m1 m) (hl : MO X W lo m2 l) (hu : MO X W hi m3 u) (d : ∀ i ∈ s1, i ∉ m2 ++ m3) : ME X W (.Subscript e (.Slice lo hi none p2) pos) [] (m1 ++ (m2 ++ m3)) (slE m l u) := by
  obtain ⟨t1, h1, k1⟩ := he
  obtain ⟨t2, h2, k2⟩ := hl
  obtain ⟨t3, h3, k3⟩ := hu
  refine ⟨_, pe_slice sl_u h1 h2 h3, fun B H env σ fp Q r p => ?_⟩
  show t1 σ H fun x H1 => t2 σ H1 fun l H2 => t3 σ H2 fun u H3 => rSlU X.K x l u H3 Q
  refine k1 B H env σ fp _ r ?_
  unfold slE at p
  cases z1 : m env with
  | no => rw [z1] at p; exact p
  | ex x e1 => rw [z1] at p; exact fun cls d B' H' fp' r' fr => p cls d B' H' fp' r' (fr.weak fun i hi => List.mem_append_left _ hi)
  | ok x e1 =>
    rw [z1] at p
    intro v B1 H1 fp1 f1 r1 fr1 g1
    refine k2 B1 H1 e1 σ fp1 _ r1 ?_
    replace p : PostE X.K X.mg W σ B H fp [] (m1 ++ (m2 ++ m3)) ((l e1).bind fun l e2 => (u e2).bind fun u e3 => optR (slT x l u) e3) Q := p
    cases z2 : l e1 with
    | no => rw [z2] at p; exact p
    | ex x e2 => rw [z2] at p; exact fun cls d B' H' fp' r' fr => p cls d B' H' fp' r' ((fr1.trans fr).weak fun i hi => by rw [← List.append_assoc]; exact List.mem_append_left _ hi)
    | ok lo e2 =>
      rw [z2] at p
      intro B2 H2 fp2 r2 fr2
      refine k3 B2 H2 e2 σ fp2 _ r2 ?_
      replace p : PostE X.K X.mg W σ B H fp [] (m1 ++ (m2 ++ m3)) ((u e2).bind fun u e3 => optR (slT x lo u) e3) Q := p
      cases z3 : u e2 with
      | no => rw [z3] at p; exact p
      | ex x e3 => rw [z3] at p; exact fun cls d B' H' fp' r' fr => p cls d B' H' fp' r' (fr1.trans (fr2.trans fr))
      | ok hi e3 =>
        rw [z3] at p
        intro B3 H3 fp3 r3 fr3
        have fr23 := fr2.trans fr3
        have q := gives_post r3 (fr1.trans fr23) (show PostE X.K X.mg W σ B H fp [] (m1 ++ (m2 ++ m3)) (optR (slT x lo hi) e3) Q from p)
        cases z4 : slT x lo hi with
        | none => rw [z4] at q; exact q.elim
        | some t => rw [z4] at q; exact sl_of r3.sub (g1.keep d r1 fr23) z4 q
end
end Mir
namespace Mir
open PySem PySem.Spec L2
structure CalOk (P : Program) (w : World) (K : PySem.W.Frag) (mg : Str → Option Value) (base : Heap) (st : Stmt) (k : Nat) (x : Str) (ps : List Str) (os : List Nat) (m : F) : Prop where
  ex : ∃ f fd, FnG P w K mg base k f fd ps os m ∧ mg x = some (.ref f) ∧ ∃ n : Str, FunD K n n (defArgs st) (defBody st) (defScope st) [] [] f fd
theorem room_u {k : Nat} {A : Around} (r : Room k A) : A.units + 100 < cLine := by
  have := r.un
  omega
theorem room_64 {k : Nat} {A : Around} (r : Room k A) : A.units + 64 < cLine := by
  have := r.un
  omega
theorem room_65 {k : Nat} {A : Around} (r : Room k A) : A.units + 65 < cLine := by
  have := r.un
  omega
theorem law_run {P : Program} {w : World} {K : PySem.W.Frag} {mg mb : Str → Option Value} {k : Nat} {fa a : Addr} {fd : FuncData} {x : Str} {m : F} {s1 : Shared} {vals : List Value} {ns : List Int}
    (kin : K.In s1.heap) (hglob : s1.heap.Ns mainGlobals mg) (hblt : s1.heap.Ns builtinsNs mb) (hboot : ∀ y : Str, y ≠ "__name__" → mb y = bootBuiltins y) (lim : s1.heap.NoLimit) (gens : s1.gens = #[])
    (here : s1.heap.get? a = some { cls := .type "list", data := .seq vals.toArray }) (hin : PyProof.Rows.IntsAre vals ns) (small : ns.length ≤ sizeLine) (room : Room k PySem.callerA)
    (F : ∀ base : Heap, K.In base → base.Ns mainGlobals mg → FnG P w K mg base k fa fd [x] [] m) (bnd : ∀ (s : Shared) (u : Value), BindsTo s fd ⟨[u], []⟩ [(x, u)])
    (says : m [.rol (ns.map .int)] = .ok (.bl true) []) :
    codeAny (model P w) PySem.callerA (.call (.ref fa) ⟨[.ref a], []⟩) (fun r s2 => r = .ok (.ret (.bool true)) ∧ OldK s1.heap s2.heap ∧ s2.os = s1.os ∧ PyProof.Rows.AllBare s2.gens) s1 := by
  have rel0 := vals_ints hin
  have lenV := hin.length
  have main : ∀ H : Hp, (∀ b, H b = none ∨ ∃ o xs, H b = some (.frz o (.lst xs))) → SqL K H a (ns.map V.int) → HOk P w H s1.heap → (∀ b, H b ≠ none → b = a) → (H a ≠ none → K.lookup a = none) →
      codeAny (model P w) PySem.callerA (.call (.ref fa) ⟨[.ref a], []⟩) (fun r s2 => r = .ok (.ret (.bool true)) ∧ OldK s1.heap s2.heap ∧ s2.os = s1.os ∧ PyProof.Rows.AllBare s2.gens) s1 := by
    intro H only seq hok onlyA noK
    have toBase : ∀ {b : Addr} {o : Obj}, s1.heap.get? b = some o → H b = none → (hidT s1.heap H).get? b = some o := fun e n => hidT_get e n
    have noDict : ∀ {b : Addr} {o : Obj} {es : Array DictEntry} {ep : Nat}, s1.heap.get? b = some o → o.data = .dict es ep → H b = none := fun {b o es ep} e d => by
      cases hq : H b with
      | none => rfl
      | some u =>
        have eb : b = a := onlyA b (by rw [hq]; exact fun z => nomatch z)
        subst eb
        rw [here] at e
        cases e
        exact nomatch (show Data.seq vals.toArray _ = Data.dict es ep from d)
    have nsB : ∀ {b : Addr} {mm : Str → Option Value}, s1.heap.Ns b mm → (hidT s1.heap H).Ns b mm := fun {b mm} hn => by
      obtain ⟨o, es, ep, e, d, r⟩ := hn
      exact ⟨o, es, ep, toBase e (noDict e d), d, r⟩
    have kinB : K.In (hidT s1.heap H) := fun b o e => by
      refine toBase (kin b o e) ?_
      cases hq : H b with
      | none => rfl
      | some u =>
        have eb : b = a := onlyA b (by rw [hq]; exact fun z => nomatch z)
        subst eb
        rw [noK (by rw [hq]; exact fun z => nomatch z)] at e
        cases e
    obtain ⟨mc, l1, l2⟩ := lim
    have modB : Mod K mg (hidT s1.heap H) := ⟨kinB, nsB hglob, ⟨mb, nsB hblt, hboot⟩, ⟨mc, nsB l1, l2⟩⟩
    have env0 : Env0 P w K mg (hidT s1.heap H) PySem.callerA [] s1 H := ⟨rfl, modB, fun b o e => of_hidT e, Nat.le_of_eq (hidT_size _ _), trivial, fun b hb => (nomatch hb), hok, .of_eq gens⟩
    have prom : PromM K mg 1 [] m [.ref a] H (fun v _ => v = .bl true) (fun _ _ _ => False) := by
      refine ⟨H, [.rol (ns.map .int)], fun _ => [], rfl, ⟨trivial, Same.refl _, rfl, fun i => ?_, fun _ => List.nodup_nil, fun _ _ _ _ h => (nomatch h), fun _ _ h => (nomatch h)⟩, fun _ _ => rfl, ?_⟩
      · cases i with
        | zero =>
          refine ⟨.ref a, rfl, ?_⟩
          unfold VR
          exact ⟨rfl, a, _, rfl, seq, vrs_ints⟩
        | succ i => exact rfl
      · rw [says]
        intro v B2 H2 fp2 f r2 fr2 g2
        exact vrB g2.vr
    refine codeAny_mono ((F _ kinB (nsB hglob)).run PySem.callerA [] s1 H ⟨[.ref a], []⟩ [.ref a] [.ref a] _ _ room rfl env0 (bnd s1 (.ref a)) (.cons rfl .nil) prom) fun r s2 h => ?_
    cases r with
    | error e =>
      obtain ⟨_, _, _, _, _, _, _, _, _, _, _, _, z⟩ := h
      exact z.elim
    | ok fl => cases fl with
      | next => exact False.elim h
      | brk => exact False.elim h
      | cont => exact False.elim h
      | ret u =>
        obtain ⟨v, H2, hos, hbare, hun, hok2, hrel, hv⟩ := h
        have hv : v = .bl true := hv
        subst hv
        obtain rfl : u = Value.bool true := hrel
        refine ⟨rfl, OldK.of_keep fun b o e => ?_, hos, hbare⟩
        cases hq : H b with
        | none => exact hun.keep b o e hq (fun z => nomatch (show b ∈ ([] : List Addr) from z)) (fun z => nomatch z)
        | some u =>
          rcases only b with z | ⟨ob, xs, z⟩
          · rw [hq] at z; cases z
          · obtain ⟨e1, _⟩ := hok b _ z
            obtain ⟨e2, _⟩ := hok2 b _ (hun.frzs b ob _ z)
            rw [e] at e1
            cases e1
            exact e2
  cases hk : K.lookup a with
  | some o =>
    have e := kin a o hk
    rw [here] at e
    cases e
    exact main (fun _ => none) (fun _ => Or.inl rfl) (Or.inr ⟨_, vals.toArray, _, hk, rfl, rfl, rfl, by rw [List.size_toArray, lenV]; exact small, by simpa using rel0⟩) (fun b u z => nomatch (show (none : Option HO) = some u from z)) (fun b z => absurd rfl z) (fun z => absurd rfl z)
  | none =>
    refine main (fun b => if b = a then some (.frz { cls := .type "list", data := .seq vals.toArray } (.lst (ns.map V.int))) else none) (fun b => ?_) (Or.inl (Or.inr ⟨_, if_pos rfl⟩)) (fun b u z => ?_) (fun b z => ?_) (fun _ => hk)
    · by_cases eb : b = a
      · exact Or.inr ⟨_, _, if_pos eb⟩
      · exact Or.inl (if_neg eb)
    · by_cases eb : b = a
      · have z2 := (if_pos eb).symm.trans z
        cases z2
        subst eb
        exact ⟨here, by rw [List.length_map]; exact small, vals, _, rel0, here⟩
      · exact nomatch (if_neg eb).symm.trans z
    · by_cases eb : b = a
      · exact eb
      · exact absurd (if_neg eb) z
theorem room_caller : Room 40 PySem.callerA := ⟨rfl, by decide, by decide⟩
theorem law_end {l : PySem.W.OpenLaw} {n k : Nat} {q : Program} {loose : List Str} {XP : (Str → Option Value) → Heap → Prop} {YP : World → Heap → Prop} {d : DefRec} {x : Str} {m : F}
    (most : l.most = some n) (nsize : n ≤ sizeLine) (nodfl : d.params.defaults = []) (room : Room k PySem.callerA)
    (F : ∀ (w : World) (mg : Str → Option Value) (fa : Addr) (h : Heap), YP w h → h.Ns mainGlobals mg → mg d.name = some (.ref fa) →
      ∃ (K : PySem.W.Frag) (fd : FuncData), K.In h ∧ (∀ (s : Shared) (u : Value), BindsTo s fd ⟨[u], []⟩ [(x, u)]) ∧ ∀ base : Heap, K.In base → base.Ns mainGlobals mg → FnG l.prog w K mg base k fa fd [x] [] m)
    (says : ∀ ns : List Int, ns.length ≤ n → m [.rol (ns.map .int)] = .ok (.bl true) []) :
    PySem.W.WalkO q loose XP YP l.row.toRowW d [] (fun f vs => PySem.call f vs) := by
  refine Att.attach_call most nodfl fun w s0 s1 mg mb fa o pm cd doc a vs ns G Y ho hd hcd hmg hobj hints hlen hg => ?_
  obtain ⟨K, fd, kin, bnd, hF⟩ := F w mg fa _ Y G.T.g hmg
  exact law_run kin G.T.g G.T.b G.T.builtins G.T.nolimit hg hobj hints (Nat.le_trans hlen nsize) room hF bnd (says ns hlen)
end Mir
namespace Mir
open PySem PySem.Spec L2
section
variable {X : Cx} {W : WZ}
theorem me_callC {st : Stmt} {k j : Nat} {x : Str} {ps : List Str} {os : List Nat} {m : F} {as : List AE} {srcs ms : List Nat} {p pos : Pos} {e : Expr} {es : List Expr} (c : CalOk X.prog X.w X.K X.mg X.base st j x ps os m)
    (hb : ∀ (nm : Str) (kV doc pm : Value) (an : Option Addr) (cdv ct : Value) (us : List Value), us.length = ps.length → bindArgs (PySem.W.fnOf nm nm (defArgs st) (defBody st) (defScope st) .none kV doc pm an cdv ct) ⟨us, []⟩ = pure (ps.zip us))
    (hr : Room k X.A) (hj : j ≤ k) (hgd : X.A.guards = some []) (hg : Gl X x) (tk : L2N.Takes X W.w) (ha : MX X W (e :: es) srcs ms as) (ho : os = (links 0 as).map (·.1)) (hn : as.length = ps.length) (dj : ∀ i ∈ srcs, i ∉ (links 0 as).map (·.2)) (nd : ((links 0 as).map (·.2)).Nodup)
    (hdb : (x == ("__debug__" : Str)) = false := by decide) (he : starEach (e :: es) X.env = (false, eval e X.env) :: starEach es X.env := by rfl) (hpl : (backTo pos (starEach es X.env)).any (·.1) = false := by rfl) :
    ME X W (.Call (.Name x p) (e :: es) [] pos) [] (ms ++ (links 0 as).map (·.2)) (callE m [] as) := by
  obtain ⟨f, fd, F, g, nm, D⟩ := c.ex
  subst ho
  exact me_call F (hr.mono hj) hgd hg g D.kp (D.bindsN (hb nm)) .nil tk ha (fun B H => by unfold VRs; exact ⟨rfl, rfl⟩) (by simpa using hn) dj nd hdb he hpl
def permL {α : Type} (d : α) (idx : List Nat) (xs : List α) : List α := idx.map fun i => xs.getD i d
theorem permL_vals {vs : List V} {us : List Value} (h : Vals vs us) (idx : List Nat) : Vals (permL .non idx vs) (permL .none idx us) := by
  induction idx with
  | nil => exact .nil
  | cons i r ih =>
    refine .cons ?_ ih
    show RelV (vs.getD i .non) (us.getD i .none)
    rw [List.getD_eq_getElem?_getD, List.getD_eq_getElem?_getD]
    cases z : vs[i]? with
    | some v =>
      obtain ⟨u, h1, h2⟩ := h.get z
      rw [h1]
      exact h2
    | none =>
      rw [h.none_of z]
      exact rfl
def MXk (X : Cx) (W : WZ) (kws : List Keyword) (srcs ms : List Nat) (as : List AE) : Prop := ∃ t : TA, PK X kws t ∧ ∀ B H env σ fp Q, Rel W.z X.K B H env σ fp → PostX X.K X.mg W σ B H fp srcs ms as (evalAs as env) Q → t σ H Q
theorem mxk_nil : MXk X W [] [] [] [] := ⟨_, pk_nil, fun B H env σ fp Q r p => p [] B H fp [] r .refl ⟨by unfold VRx; exact ⟨rfl, rfl⟩, fun _ z => (nomatch z), fun _ z => (nomatch z)⟩⟩
theorem mxk_v {e : Expr} {kws : List Keyword} {nm : Option Str} {kpos : Pos} {s1 s2 m1 m2 : List Nat} {a : E} {as : List AE} (ha : ME X W e s1 m1 a) (hb : MXk X W kws s2 m2 as) (d : ∀ i ∈ s1, i ∉ m2) : MXk X W (⟨nm, e, kpos⟩ :: kws) (s1 ++ s2) (m1 ++ m2) (.v a :: as) := by
  obtain ⟨t1, h1, k1⟩ := ha
  obtain ⟨t2, h2, k2⟩ := hb
  refine ⟨_, pk_cons h1 h2, fun B H env σ fp Q r p => ?_⟩
  show t1 σ H fun x H1 => t2 σ H1 fun xs H2 => Q (x :: xs) H2
  refine k1 B H env σ fp _ r ?_
  unfold evalAs at p
  cases z1 : a env with
  | no => rw [z1] at p; exact p
  | ex x e1 => rw [z1] at p; exact fun cls d B' H' fp' r' fr => p cls d B' H' fp' r' (fr.weak fun i hi => List.mem_append_left _ hi)
  | ok u e1 =>
    rw [z1] at p
    intro v B1 H1 fp1 f1 r1 fr1 g1
    refine k2 B1 H1 e1 σ fp1 _ r1 ?_
    replace p : PostX X.K X.mg W σ B H fp (s1 ++ s2) (m1 ++ m2) (.v a :: as) ((evalAs as e1).bind fun xs e2 => .ok (some u :: xs) e2) Q := p
    cases z2 : evalAs as e1 with
    | no => rw [z2] at p; exact p
    | ex x e2 => rw [z2] at p; exact fun cls d B' H' fp' r' fr => p cls d B' H' fp' r' (fr1.trans fr)
    | ok us e2 =>
      rw [z2] at p
      intro vs B2 H2 fp2 f2 r2 fr2 g2
      have n1 := new_keep g1.new g1.there d fr2
      refine p (v :: vs) B2 H2 fp2 (f1 ++ f2) r2 (fr1.trans fr2) ⟨?_, fun a ha => ?_, fun a ha => ?_⟩
      · unfold VRx
        exact ⟨v, vs, f1, f2, rfl, rfl, g1.keep d r1 fr2, g2.vr⟩
      · rcases List.mem_append.mp ha with ha | ha
        · exact off_keep g1.off g1.new g1.there d r1 fr2 a ha
        · exact g2.off a ha
      · rcases List.mem_append.mp ha with ha | ha
        · rcases n1 a ha with q | ⟨i, hi, q⟩
          · exact .inl q
          · exact .inr ⟨i, List.mem_append_left _ hi, q⟩
        · rcases new_pre g2.new fr1 a ha with q | ⟨i, hi, q⟩
          · exact .inl q
          · exact .inr ⟨i, List.mem_append_right _ hi, q⟩
def callK (f : F) (idx : List Nat) (as : List AE) : E := fun e => (evalAs as e).bind fun xs e1 => match fillA as xs e1 with
  | some ts => callR f [] xs (permL .non idx ts) e1
  | none => .no
theorem links_nil : ∀ {as : List AE} {n : Nat}, links n as = [] → ∀ i, slotAt as i = none
  | [], _, _, i => by simp [slotAt]
  | .v _ :: r, n, h, 0 => rfl
  | .v m :: r, n, h, i + 1 => by
    have : slotAt (.v m :: r) (i + 1) = slotAt r i := by simp [slotAt]
    rw [this]
    exact links_nil (as := r) (n := n + 1) h i
  | .s _ :: r, n, h, _ => by simp [links] at h
theorem callK_reads {K : PySem.W.Frag} {mg : Str → Option Value} {W' : WZ} {σ : St} {B H B1 H1 : Hp} {fp fp1 : Fp} {srcs ms : List Nat} {as : List AE} {xs : List (Option T)} {e1 : Env} {vs : List V} {g : List Addr} {n : Nat} {m : F} {idx : List Nat} {Q : VK} (r1 : Rel W'.z K B1 H1 e1 σ fp1) (fr1 : Fr ms B H fp B1 H1 fp1) (gx : GotX K B1 H1 σ fp1 H srcs as xs vs g)
    (hn : idx.length = n) (hi : ∀ i ∈ idx, i < vs.length) (ls : links 0 as = [])
    (p : PostE K mg W' σ B H fp [] ms (match fillA as xs e1 with
      | some ts => callR m [] xs (permL .non idx ts) e1
      | none => .no) Q) : PromM K mg n [] m (permL .non idx vs) H1 Q (fun cls d H' => W'.w cls d σ H') := by
  cases z : fillA as xs e1 with
  | none => rw [z] at p; exact p.elim
  | some ts =>
    rw [z] at p
    replace p : PostE K mg W' σ B H fp [] ms (callR m [] xs (permL .non idx ts) e1) Q := p
    have sB : Same B1 (addB B1 H1 g) := addB_same gx.off
    obtain ⟨lts, fill⟩ := gx.vr.fill sB (H' := H1) r1.at_ (fun _ _ _ _ h => h) z fun a ha o h => by rw [addB_in ha]; exact h
    have s0 := links_nil ls
    have one : ∀ i, i < vs.length → VR K (addB B1 H1 g) H1 (ts.getD i .non) (vs.getD i .non) [] := fun i hi => by
      have q := (fill i).1
      rw [s0 i] at q
      have h1 : i < ts.length := by rw [lts]; exact hi
      rw [List.getElem?_map, List.getElem?_map, List.getElem?_eq_getElem h1, List.getElem?_eq_getElem hi] at q
      obtain ⟨v, hv, vr⟩ := q
      have hv : some vs[i] = some v := hv
      cases hv
      rw [List.getD_eq_getElem?_getD, List.getD_eq_getElem?_getD, List.getElem?_eq_getElem h1, List.getElem?_eq_getElem hi]
      exact vr
    have all : ∀ idx : List Nat, (∀ i ∈ idx, i < vs.length) → VRs K (addB B1 H1 g) H1 (permL .non idx ts) (permL .non idx vs) [] := fun idx hi => by
      induction idx with
      | nil => unfold permL List.map VRs; exact ⟨rfl, rfl⟩
      | cons i r ih =>
        show VRs K _ _ (ts.getD i .non :: permL .non r ts) (vs.getD i .non :: permL .non r vs) []
        unfold VRs
        exact ⟨_, _, [], [], rfl, rfl, one i (hi i (List.mem_cons_self ..)), ih fun j hj => hi j (List.mem_cons_of_mem _ hj)⟩
    have rp : Rel none K (addB B1 H1 g) H1 ((permL .non idx ts).map some) ((permL .non idx vs).map some) (fun _ => []) := ⟨trivial, addB_sub r1.sub, by simp [permL], fun i => (all idx hi).slots i, fun _ => List.nodup_nil, fun _ _ _ _ h => (nomatch h), fun _ _ h => (nomatch h)⟩
    refine ⟨addB B1 H1 g, _, fun _ => [], by simp [permL]; exact hn, rp, fun _ _ => rfl, ?_⟩
    have cf : ∀ a ∈ g, ∃ o, H1 a = some o ∧ MutO o := gx.vr.cells
    unfold callR at p
    cases z3 : m (permL .non idx ts) with
    | no => rw [z3] at p; exact p.elim
    | ok t outs =>
      rw [z3] at p
      replace p : PostE K mg W' σ B H fp [] ms (if okR ([] : List (Nat × Nat)).length xs t outs = true then .ok t (putO e1 (([] : List (Nat × Nat)).map (·.2)) outs) else .no) Q := p
      by_cases c : okR ([] : List (Nat × Nat)).length xs t outs = true
      · rw [if_pos c] at p
        obtain ⟨c1, c2⟩ := Bool.and_eq_true_iff.mp c
        have ho : outs.length = ([] : List (Nat × Nat)).length := by simpa using c1
        intro v B2 H2 fp2 f2 r2 fr2 g2
        have ok : noLsts outs = true ∨ g = [] := (Bool.or_eq_true_iff.mp c2).elim (fun h => .inl (Bool.and_eq_true_iff.mp h).2) fun h => .inr (gx.vr.noOwn h)
        obtain ⟨fpn, rn, frn, tup, nn⟩ := call_back (ls := []) r1 List.nodup_nil List.nodup_nil gx.off cf (fun p hp => nomatch hp) (fun p hp => nomatch hp) ho r2 fr2 ok (fun _ z => nomatch z)
        have vr : VR K (lessB B2 g) H2 t v f2 := (Bool.or_eq_true_iff.mp c2).elim (fun h => g2.vr.loose tup (Bool.and_eq_true_iff.mp h).1) fun h => by
          have := gx.vr.noOwn h
          subst this
          rw [lessB_nil]; exact g2.vr
        have n2 := nil_srcs g2.new
        have fr := fr1.trans frn
        rw [List.map_nil, List.append_nil] at fr
        refine p v _ H2 fpn f2 rn fr ⟨vr, g2.nd, fun a ha => ?_, fun a ha => .inl ⟨fr1.grow a (n2 a ha).1, nn a (n2 a ha).1 (n2 a ha).2⟩⟩
        by_cases zz : a ∈ g
        · exact lessB_in zz
        · rw [lessB_out zz]; exact g2.off a ha
      · rw [if_neg c] at p; exact p.elim
    | ex x outs =>
      rw [z3] at p
      replace p : PostE K mg W' σ B H fp [] ms (if okX ([] : List (Nat × Nat)).length xs x outs = true then .ex x (putO e1 (([] : List (Nat × Nat)).map (·.2)) outs) else .no) Q := p
      by_cases c : okX ([] : List (Nat × Nat)).length xs x outs = true
      · rw [if_pos c] at p
        obtain ⟨c1, c2⟩ := Bool.and_eq_true_iff.mp c
        have ho : outs.length = ([] : List (Nat × Nat)).length := by simpa using c1
        intro cls d B2 H2 fp2 r2 fr2 ex
        have ok : noLsts outs = true ∨ g = [] := (Bool.or_eq_true_iff.mp c2).elim (fun h => .inl (Bool.and_eq_true_iff.mp h).2) fun h => .inr (gx.vr.noOwn h)
        obtain ⟨fpn, rn, frn, tup, nn⟩ := call_back (ls := []) r1 List.nodup_nil List.nodup_nil gx.off cf (fun p hp => nomatch hp) (fun p hp => nomatch hp) ho r2 fr2 ok (fun _ z => nomatch z)
        have fr := fr1.trans frn
        rw [List.map_nil, List.append_nil] at fr
        refine p cls d _ H2 fpn rn fr ⟨ex.cl, ?_⟩
        have muts : ∀ a ∈ g, ∀ o, B2 a = some o → MutO o := fun a ha o h => by
          obtain ⟨u, hu, mm⟩ := cf a ha
          have := fr2.b a u (by rw [addB_in ha]; exact hu)
          rw [this] at h
          cases h
          exact mm
        exact ex.fl.less muts tup ((Bool.or_eq_true_iff.mp c2).elim (fun h => .inl (Bool.and_eq_true_iff.mp h).1) fun h => .inr (gx.vr.noOwn h))
      · rw [if_neg c] at p; exact p.elim
theorem VRx.len {K : PySem.W.Frag} {B H : Hp} {σ : St} : ∀ {as : List AE} {xs : List (Option T)} {vs : List V} {f : List Addr}, VRx K B H σ as xs vs f → vs.length = as.length
  | [], [], _, _, h => by unfold VRx at h; rw [h.1]; rfl
  | .v _ :: as, some t :: xs, vs, f, h => by
    unfold VRx at h
    obtain ⟨v, r, f1, f2, rfl, _, _, h2⟩ := h
    simp [VRx.len h2]
  | .s j :: as, none :: xs, vs, f, h => by
    unfold VRx at h
    obtain ⟨v, r, rfl, _, h2⟩ := h
    simp [VRx.len h2]
  | [], _ :: _, _, _, h => by simp [VRx] at h
  | .v _ :: _, [], _, _, h => by simp [VRx] at h
  | .s _ :: _, [], _, _, h => by simp [VRx] at h
  | .v _ :: _, none :: _, _, _, h => by simp [VRx] at h
  | .s _ :: _, some _ :: _, _, _, h => by simp [VRx] at h
theorem me_callK {st : Stmt} {k j : Nat} {x : Str} {ps ks : List Str} {m : F} {as : List AE} {srcs ms : List Nat} {p pos : Pos} {kws : List Keyword} (idx : List Nat) (c : CalOk X.prog X.w X.K X.mg X.base st j x ps [] m)
    (hb : ∀ (nm : Str) (kV doc pm : Value) (an : Option Addr) (cdv ct : Value) (ws : List Value), ws.length = ks.length → bindArgs (PySem.W.fnOf nm nm (defArgs st) (defBody st) (defScope st) .none kV doc pm an cdv ct) ⟨[], ks.zip ws⟩ = pure (ps.zip (permL .none idx ws)))
    (hr : Room k X.A) (hj : j ≤ k) (hgd : X.A.guards = some []) (hg : Gl X x) (tk : L2N.Takes X W.w) (ha : MXk X W kws srcs ms as) (hn : as.length = ks.length) (hl : links 0 as = []) (hx : idx.length = ps.length) (hi : ∀ i ∈ idx, i < as.length)
    (hall : (backToKw pos (keywordEach kws X.env)).all (·.1.isSome) = true := by rfl) (hks : (backToKw pos (keywordEach kws X.env)).filterMap (·.1) = ks := by rfl) (hdb : (x == ("__debug__" : Str)) = false := by decide)
    (hpl : ((backTo pos (starEach [] X.env)).any (·.1) || (backToKw pos (keywordEach kws X.env)).any (·.1.isNone)) = false := by rfl) :
    ME X W (.Call (.Name x p) [] kws pos) [] ms (callK m idx as) := by
  obtain ⟨f, fd, F, g, nm, D⟩ := c.ex
  obtain ⟨t, ht, hm2⟩ := ha
  have bnd : ∀ (s : Shared) (ws : List Value), ws.length = ks.length → BindsTo s fd ⟨[], ks.zip ws⟩ (ps.zip (permL .none idx ws)) := fun s ws hw => by
    obtain ⟨oc, od, dV, kV, doc, pm, an, cdv, ct, osl, rfl, lk, hcd, hD, hK⟩ := D.ex
    rcases hD with ⟨_, rfl⟩ | ⟨e, _⟩
    · exact .of_eq (hb nm kV doc pm an cdv ct ws hw)
    · exact absurd rfl e
  refine ⟨fun σ H Q => t σ H fun vs H1 => vs.length = as.length ∧ PromM X.K X.mg ps.length [] m (permL .non idx vs) H1 Q (fun cls d H' => W.w cls d σ H'), ⟨fun pins s σ H Q I h => ?_⟩, fun B H env σ fp Q r p => ?_⟩
  · refine wpAny_Call_Name_kw (ld_glob I hg g (PySem.W.callWith_KW0 (h₀ := X.base) I.ok.mod.kin D.kp hall (thn (ht.run pos pins s σ H _ I h) fun us s1 hh => ?_) hpl) hdb)
    obtain ⟨vs, H1, I1, rv, q0, q⟩ := hh
    refine ⟨I1.kIn, ?_⟩
    rw [hks]
    have lw : us.length = ks.length := by rw [← rv.length, q0]; exact hn
    refine wpAny_call (codeAny_mono (F.run X.A X.stack s1 H1 ⟨[], ks.zip us⟩ (permL .none idx us) (permL .non idx vs) Q (fun cls d H' => W.w cls d σ H') (hr.mono hj) hgd I1.env0 (bnd s1 us lw) (permL_vals rv idx) q) fun r s' hq => ?_)
    cases r with
    | error er => exact tk er s' (L2N.XE.of_call I1 (fun cls d H' hw => hw) hq)
    | ok fl => cases fl with
      | ret u => exact I1.after hq
      | next => exact hq.elim
      | brk => exact hq.elim
      | cont => exact hq.elim
  · refine hm2 B H env σ fp _ r ?_
    unfold callK at p
    cases z : evalAs as env with
    | no => rw [z] at p; exact p
    | ex x e1 => rw [z] at p; exact p
    | ok xs e1 =>
      rw [z] at p
      intro vs B1 H1 fp1 gg r1 fr1 gx
      exact ⟨gx.vr.len, callK_reads r1 fr1 gx hx (fun i hh => by rw [gx.vr.len]; exact hi i hh) hl p⟩
def yesC : C := fun e => .ok true e
theorem pts_yes : PTs X [] (canC X.K X.mg (W0 W.z) [] yesC) := ⟨fun pins s σ H Q I ⟨B, env, fp, r, p⟩ => pts_nil.run pins s σ H Q I (p B H fp r .refl)⟩
theorem pts_if {c : Expr} {ms : List Nat} {m : C} (h : MC X (W0 W.z) c ms m) : PTs X [c] (canC X.K X.mg (W0 W.z) ms m) := pts_one h.can
theorem me_lc {elt tg iter : Expr} {ifs : List Expr} {scope : Scope} {own : List (Str × Nat)} {pos : Pos} {srcs m0 m1 m2 m3 : List Nat} {it : A} {f : T → Env → Option Env} {tc : C} {te : E} (hc : X.calm = true) (hN : X.N.Nodup) (ok : BlkOk X.N X.env.scope scope own) (hi : MI X W tg iter srcs m0 it)
    (hg : ∀ (s : Shared) (H : Hp) (c : Addr) (cl : List (Str × Addr)) (fp : List Addr), MG W.z (X.blk s H scope (compEnvC scope cl c X.env) fp) tg m1 f)
    (ht : ∀ (s : Shared) (H : Hp) (c : Addr) (cl : List (Str × Addr)) (fp : List Addr), PTs (X.blk s H scope (compEnvC scope cl c X.env) fp) ifs (canC X.K X.mg (W0 W.z) m2 tc))
    (he : ∀ (s : Shared) (H : Hp) (c : Addr) (cl : List (Str × Addr)) (fp : List Addr), ME (X.blk s H scope (compEnvC scope cl c X.env) fp) (W0 W.z) elt [] m3 te)
    (d : ∀ i ∈ srcs, i ∉ m1 ++ (m2 ++ m3)) (d1 : ∀ i ∈ m1, i ∈ own.map (·.2)) (nv : (own.map (·.2)).all (freeZ W.z) = true := by rfl) (hs : ∀ x, foldedSetIterable iter X.env x = pure x := by intro _; rfl) :
    ME X W (.ListComp elt [⟨tg, iter, ifs, 0⟩] scope pos) [] (m0 ++ (m1 ++ (m2 ++ m3))) (lcM it f tc te (own.map (·.2))) := by
  obtain ⟨wi, h0, k0⟩ := hi
  exact ⟨_, pe_lc (te := canE X.K X.mg (W0 W.z) [] m3 te) (g := canG W.z X.K m1 f) (tt := canC X.K X.mg (W0 W.z) m2 tc) hc hN h0 ok (fun s H c cl fp => (hg s H c cl fp).can) ht (fun s H c cl fp => (he s H c cl fp).can) hs, lc_reads k0 d d1 nv⟩
theorem ms_setLc {elt tg iter : Expr} {ifs : List Expr} {scope : Scope} {own : List (Str × Nat)} {pos spos py : Pos} {i : Nat} {y : Str} {ks srcs m0 m1 m2 m3 : List Nat} {it : A} {f : T → Env → Option Env} {tc : C} {te : E} (hc : X.calm = true) (hN : X.N.Nodup) (hy : X.N[i]? = some y) (hyl : X.env.scope.names.lookup y = some .local)
    (hsw : swapsWith (.ListComp elt [⟨tg, iter, ifs, 0⟩] scope pos) (some (.Name y py)) spos.line X.env = pure true) (ok : BlkOk X.N X.env.scope scope own) (hi : MI X W tg iter srcs m0 it)
    (hg : ∀ (s : Shared) (H : Hp) (c : Addr) (cl : List (Str × Addr)) (fp : List Addr), MG W.z (X.blk s H scope (compEnvC scope cl c X.env) fp) tg m1 f)
    (ht : ∀ (s : Shared) (H : Hp) (c : Addr) (cl : List (Str × Addr)) (fp : List Addr), PTs (X.blk s H scope (compEnvC scope cl c X.env) fp) ifs (canC X.K X.mg (W0 W.z) m2 tc))
    (he : ∀ (s : Shared) (H : Hp) (c : Addr) (cl : List (Str × Addr)) (fp : List Addr), ME (X.blk s H scope (compEnvC scope cl c X.env) fp) (W0 W.z) elt [] m3 te)
    (d : ∀ i ∈ srcs, i ∉ m1 ++ (m2 ++ m3)) (d1 : ∀ i ∈ m1, i ∈ own.map (·.2)) (nk : i ∉ ks) (nv : (own.map (·.2)).all (freeZ W.z) = true := by rfl) (nz : freeZ W.z i = true := by rfl) (hs : ∀ x, foldedSetIterable iter X.env x = pure x := by intro _; rfl) :
    MS X W ks (.Assign [.Name y py] (.ListComp elt [⟨tg, iter, ifs, 0⟩] scope pos) spos) [] (i :: (m0 ++ (m1 ++ (m2 ++ m3)))) (asg i (lcM it f tc te (own.map (·.2)))) := by
  obtain ⟨wi, h0, k0⟩ := hi
  have hps := ps_setLc (te := canE X.K X.mg (W0 W.z) [] m3 te) (g := canG W.z X.K m1 f) (tt := canC X.K X.mg (W0 W.z) m2 tc) hc hN hy hyl hsw h0 ok (fun s H c cl fp => (hg s H c cl fp).can) ht (fun s H c cl fp => (he s H c cl fp).can) hs
  refine ⟨_, hps, fun B H env σ fp D r p => ?_⟩
  refine lc_reads k0 d d1 nv B H env σ fp _ r ?_
  unfold asg at p
  cases z : lcM it f tc te (own.map (·.2)) env with
  | no => rw [z] at p; exact p
  | ex x e1 => rw [z] at p; exact fun cls d B' H' fp' r' fr => p cls d σ B' H' fp' r' (fr.weak fun i hi => List.mem_cons_of_mem _ hi) .refl
  | ok u e1 =>
    rw [z] at p
    intro v B1 H1 fp1 g r1 fr1 g1
    obtain ⟨fp', r', kk⟩ := r1.store (i := i) g1 nz
    exact p _ B1 H1 fp' r' (kk _ B fp fr1) fun j hj => join_set_ne fun e => nk (by rw [← e]; exact hj)
end
end Mir
namespace Mir
open PySem PySem.Spec L2
section
variable {X : Cx} {W : WZ}
noncomputable def big (n : Int) : Int := Classical.choose (show ∃ m : Int, m = n from ⟨n, rfl⟩)
theorem big_eq (n : Int) : big n = n := Classical.choose_spec (show ∃ m : Int, m = n from ⟨n, rfl⟩)
def frzE (m : E) : E := fun e => (m e).bind fun t e1 => .ok (frz t) e1
theorem me_big {n : Int} {e : Expr} {srcs ms : List Nat} (h : ME X W e srcs ms (con (.int n))) : ME X W e srcs ms (con (.int (big n))) := by
  rw [big_eq]; exact h
end
end Mir
namespace Mir
open PySem PySem.Spec L2
def OptP {α : Type} (o : Option α) (Q : α → Prop) : Prop := match o with
  | some a => Q a
  | none => False
def SatR {α : Type} (r : R α) (Q : α → Env → Prop) (X : Exc → Env → Prop) : Prop := match r with
  | .ok a e => Q a e
  | .ex x e => X x e
  | .no => False
structure OD where
  nx : Env → Prop
  rt : T → Env → Prop
  bk : Env → Prop
  ct : Env → Prop
  ex : Exc → Env → Prop
def SatO (o : O) (D : OD) : Prop := match o with
  | .nx e => D.nx e
  | .rt t e => D.rt t e
  | .bk e => D.bk e
  | .ct e => D.ct e
  | .ex x e => D.ex x e
  | .no => False
def SatF (r : FR) (Q : T → List T → Prop) (X : Exc → List T → Prop) : Prop := match r with
  | .ok t ts => Q t ts
  | .ex x ts => X x ts
  | .no => False
abbrev X0 {α : Type} : Exc → α → Prop := fun _ _ => False
theorem optP_some {α : Type} {a : α} {Q : α → Prop} : OptP (some a) Q = Q a := rfl
theorem optP_none {α : Type} {Q : α → Prop} : OptP none Q = False := rfl
theorem optP_ite {α : Type} {c : Prop} {inst : Decidable c} {a b : Option α} {Q : α → Prop} : OptP (if c then a else b) Q = if c then OptP a Q else OptP b Q := by split <;> rfl
theorem optP_map {α β : Type} {o : Option α} {f : α → β} {Q : β → Prop} : OptP (o.map f) Q = OptP o fun a => Q (f a) := by cases o <;> rfl
theorem optP_bind {α β : Type} {o : Option α} {f : α → Option β} {Q : β → Prop} : OptP (o.bind f) Q = OptP o fun a => OptP (f a) Q := by cases o <;> rfl
section
variable {α β : Type} {Q : α → Env → Prop} {X : Exc → Env → Prop}
theorem satR_ok {a : α} {e : Env} : SatR (.ok a e) Q X = Q a e := rfl
theorem satR_bind {r : R β} {f : β → Env → R α} : SatR (r.bind f) Q X = SatR r (fun a e => SatR (f a e) Q X) X := by cases r <;> rfl
theorem satR_optR {o : Option α} {e : Env} : SatR (optR o e) Q X = OptP o fun a => Q a e := by cases o <;> rfl
theorem satR_ite {c : Prop} {inst : Decidable c} {a b : R α} : SatR (if c then a else b) Q X = if c then SatR a Q X else SatR b Q X := by split <;> rfl
theorem satR_mono {Q' : α → Env → Prop} {X' : Exc → Env → Prop} {r : R α} (h : SatR r Q X) (hq : ∀ a e, Q a e → Q' a e) (hx : ∀ x e, X x e → X' x e) : SatR r Q' X' := by
  cases r with
  | ok a e => exact hq _ _ h
  | ex x e => exact hx _ _ h
  | no => exact h.elim
end
def kAt {α : Type} (Q : α → Env → Prop) (e : Env) : α → Prop := fun a => Q a e
theorem k_at {α : Type} {Q : α → Env → Prop} {e : Env} {a : α} : kAt Q e a = Q a e := rfl
section
variable {Q : T → Env → Prop} {Qb : Bool → Env → Prop} {Qs : List T → Env → Prop} {Qo : Option Int → Env → Prop} {Qx : List (Option T) → Env → Prop} {X : Exc → Env → Prop} {e e1 : Env} {t x y : T} {xs ts : List T} {a b m : E} {c : C}
theorem w_var {i : Nat} : SatR (var i e) Q X = OptP e[i]?.join (kAt Q e) := by unfold var; cases e[i]?.join <;> rfl
theorem w_con : SatR (con t e) Q X = Q t e := rfl
def kFrzv (i : Nat) (Q : T → Env → Prop) (e : Env) : T → Prop := fun t => Q (frz t) (e.set i (some (frz t)))
theorem k_frzv {i : Nat} : kFrzv i Q e t = Q (frz t) (e.set i (some (frz t))) := rfl
theorem w_frzv {i : Nat} : SatR (frzv i e) Q X = OptP e[i]?.join (kFrzv i Q e) := by unfold frzv; cases e[i]?.join <;> rfl
theorem ite_false_and {c q : Prop} {inst : Decidable c} : (if c then q else False) = (c ∧ q) := by
  by_cases h : c
  · rw [if_pos h]; exact propext ⟨fun x => ⟨h, x⟩, fun x => x.2⟩
  · rw [if_neg h]; exact propext ⟨fun x => x.elim, fun x => absurd x.1 h⟩
def kSettle (Q : T → Env → Prop) : T → Env → Prop := fun t e1 => noOwn t = true ∧ Q t e1
theorem k_settle : kSettle Q t e = (noOwn t = true ∧ Q t e) := rfl
theorem w_settle : SatR (settle m e) Q X = SatR (m e) (kSettle Q) X := by
  unfold settle
  cases m e with
  | ok t e1 => exact (satR_ite).trans ite_false_and
  | _ => rfl
def kFrz (Q : T → Env → Prop) : T → Env → Prop := fun t e1 => Q (frz t) e1
theorem k_frz : kFrz Q t e = Q (frz t) e := rfl
theorem w_frzE : SatR (frzE m e) Q X = SatR (m e) (kFrz Q) X := by unfold frzE; rw [satR_bind]; rfl
theorem w_nilA : SatR (nilA e) Qs X = Qs [] e := rfl
def kCons2 (x : T) (Qs : List T → Env → Prop) : List T → Env → Prop := fun xs e2 => Qs (x :: xs) e2
theorem k_cons2 : kCons2 x Qs xs e = Qs (x :: xs) e := rfl
def kCons (r : A) (Qs : List T → Env → Prop) (X : Exc → Env → Prop) : T → Env → Prop := fun x e1 => SatR (r e1) (kCons2 x Qs) X
theorem k_cons {r : A} : kCons r Qs X x e = SatR (r e) (kCons2 x Qs) X := rfl
theorem w_consA {r : A} : SatR (consA a r e) Qs X = SatR (a e) (kCons r Qs X) X := by unfold consA; simp only [satR_bind, satR_ok]; rfl
def kOp {α : Type} (f : α → Option T) (Q : T → Env → Prop) : α → Env → Prop := fun x e1 => OptP (f x) (kAt Q e1)
theorem k_op {α : Type} {f : α → Option T} {x : α} : kOp f Q x e = OptP (f x) (kAt Q e) := rfl
def kBin (f : T → T → Option T) (b : E) (Q : T → Env → Prop) (X : Exc → Env → Prop) : T → Env → Prop := fun x e1 => SatR (b e1) (kOp (f x) Q) X
theorem k_bin {f : T → T → Option T} : kBin f b Q X x e = SatR (b e) (kOp (f x) Q) X := rfl
theorem w_bin {f : T → T → Option T} : SatR (bin f a b e) Q X = SatR (a e) (kBin f b Q X) X := by unfold bin; simp only [satR_bind, satR_optR]; rfl
theorem w_una {f : T → Option T} : SatR (una f a e) Q X = SatR (a e) (kOp f Q) X := by unfold una; simp only [satR_bind, satR_optR]; rfl
theorem w_cal {f : List T → Option T} {a : A} : SatR (cal f a e) Q X = SatR (a e) (kOp f Q) X := by unfold cal; simp only [satR_bind, satR_optR]; rfl
def kTru (Qb : Bool → Env → Prop) : T → Env → Prop := fun x e1 => OptP (truT x) (kAt Qb e1)
theorem k_tru : kTru Qb t e = OptP (truT t) (kAt Qb e) := rfl
theorem w_tru : SatR (tru m e) Qb X = SatR (m e) (kTru Qb) X := by unfold tru; simp only [satR_bind, satR_optR]; rfl
def kNot (Qb : Bool → Env → Prop) : Bool → Env → Prop := fun x e1 => Qb (!x) e1
theorem k_not {k : Bool} : kNot Qb k e = Qb (!k) e := rfl
theorem w_notC : SatR (notC c e) Qb X = SatR (c e) (kNot Qb) X := by unfold notC; simp only [satR_bind, satR_ok]; rfl
def kAnd (b : C) (Qb : Bool → Env → Prop) (X : Exc → Env → Prop) : Bool → Env → Prop := fun x e1 => if x = true then SatR (b e1) Qb X else Qb false e1
theorem k_and {b : C} {k : Bool} : kAnd b Qb X k e = if k = true then SatR (b e) Qb X else Qb false e := rfl
theorem w_andC {b : C} : SatR (andC c b e) Qb X = SatR (c e) (kAnd b Qb X) X := by unfold andC; simp only [satR_bind, satR_ite, satR_ok]; rfl
def kOr (b : C) (Qb : Bool → Env → Prop) (X : Exc → Env → Prop) : Bool → Env → Prop := fun x e1 => if x = true then Qb true e1 else SatR (b e1) Qb X
theorem k_or {b : C} {k : Bool} : kOr b Qb X k e = if k = true then Qb true e else SatR (b e) Qb X := rfl
theorem w_orC {b : C} : SatR (orC c b e) Qb X = SatR (c e) (kOr b Qb X) X := by unfold orC; simp only [satR_bind, satR_ite, satR_ok]; rfl
theorem w_yesC : SatR (yesC e) Qb X = Qb true e := rfl
def kIfE (a b : E) (Q : T → Env → Prop) (X : Exc → Env → Prop) : Bool → Env → Prop := fun x e1 => if x = true then SatR (a e1) Q X else SatR (b e1) Q X
theorem k_ifE {k : Bool} : kIfE a b Q X k e = if k = true then SatR (a e) Q X else SatR (b e) Q X := rfl
theorem w_ifE : SatR (ifE c a b e) Q X = SatR (c e) (kIfE a b Q X) X := by unfold ifE; simp only [satR_bind, satR_ite]; rfl
def kAndE (b : E) (Q : T → Env → Prop) (X : Exc → Env → Prop) (e : Env) : Bool → Prop := fun k => if k = true then SatR (b e) Q X else Q (.bl false) e
theorem k_andE {k : Bool} : kAndE b Q X e k = if k = true then SatR (b e) Q X else Q (.bl false) e := rfl
def kAndE1 (b : E) (Q : T → Env → Prop) (X : Exc → Env → Prop) : T → Env → Prop := fun x e => OptP (blOf x) (kAndE b Q X e)
theorem k_andE1 : kAndE1 b Q X x e = OptP (blOf x) (kAndE b Q X e) := rfl
theorem w_andE : SatR (andE a b e) Q X = SatR (a e) (kAndE1 b Q X) X := by unfold andE; simp only [satR_bind, satR_ite, satR_ok, satR_optR]; rfl
def kOrE (b : E) (Q : T → Env → Prop) (X : Exc → Env → Prop) (e : Env) : Bool → Prop := fun k => if k = true then Q (.bl true) e else SatR (b e) Q X
theorem k_orE {k : Bool} : kOrE b Q X e k = if k = true then Q (.bl true) e else SatR (b e) Q X := rfl
def kOrE1 (b : E) (Q : T → Env → Prop) (X : Exc → Env → Prop) : T → Env → Prop := fun x e => OptP (blOf x) (kOrE b Q X e)
theorem k_orE1 : kOrE1 b Q X x e = OptP (blOf x) (kOrE b Q X e) := rfl
theorem w_orE : SatR (orE a b e) Q X = SatR (a e) (kOrE1 b Q X) X := by unfold orE; simp only [satR_bind, satR_ite, satR_ok, satR_optR]; rfl
def notT (t : T) : Option T := (blOf t).map fun k => .bl (!k)
theorem w_notE : SatR (notE a e) Q X = SatR (a e) (kOp notT Q) X := by unfold notE; rw [w_una]; rfl
def kTup (Q : T → Env → Prop) : List T → Env → Prop := fun ts e1 => ts.length ≤ sizeLine ∧ Q (.tup (frzs ts)) e1
theorem k_tup : kTup Q ts e = (ts.length ≤ sizeLine ∧ Q (.tup (frzs ts)) e) := rfl
theorem w_tupE {m : A} : SatR (tupE m e) Q X = SatR (m e) (kTup Q) X := by
  unfold tupE; simp only [satR_bind, satR_ite, satR_ok]
  congr 1; funext ts e1; exact ite_false_and
def kLst (Q : T → Env → Prop) : List T → Env → Prop := fun ts e1 => ts.length ≤ sizeLine ∧ Q (.own ts) e1
theorem k_lst : kLst Q ts e = (ts.length ≤ sizeLine ∧ Q (.own ts) e) := rfl
theorem w_lstE {m : A} : SatR (lstE m e) Q X = SatR (m e) (kLst Q) X := by
  unfold lstE; simp only [satR_bind, satR_ite, satR_ok]
  congr 1; funext ts e1; exact ite_false_and
theorem w_noI : SatR (noI e) Qo X = Qo none e := rfl
def kInt (Qo : Option Int → Env → Prop) : T → Env → Prop := fun x e1 => OptP (intOf x) (kAt Qo e1)
theorem k_int : kInt Qo x e = OptP (intOf x) (kAt Qo e) := rfl
theorem w_soI : SatR (soI m e) Qo X = SatR (m e) (kInt Qo) X := by unfold soI; simp only [satR_bind, satR_optR]; rfl
def kSl2 (x : T) (l : Option Int) (Q : T → Env → Prop) : Option Int → Env → Prop := fun u e => OptP (slT x l u) (kAt Q e)
theorem k_sl2 {l u : Option Int} : kSl2 x l Q u e = OptP (slT x l u) (kAt Q e) := rfl
def kSl1 (x : T) (hi : OI) (Q : T → Env → Prop) (X : Exc → Env → Prop) : Option Int → Env → Prop := fun l e => SatR (hi e) (kSl2 x l Q) X
theorem k_sl1 {l : Option Int} {hi : OI} : kSl1 x hi Q X l e = SatR (hi e) (kSl2 x l Q) X := rfl
def kSl (lo hi : OI) (Q : T → Env → Prop) (X : Exc → Env → Prop) : T → Env → Prop := fun x e => SatR (lo e) (kSl1 x hi Q X) X
theorem k_sl {lo hi : OI} : kSl lo hi Q X x e = SatR (lo e) (kSl1 x hi Q X) X := rfl
theorem w_slE {lo hi : OI} : SatR (slE m lo hi e) Q X = SatR (m e) (kSl lo hi Q X) X := by unfold slE; simp only [satR_bind, satR_optR]; rfl
def kApp2 (i : Nat) (t : T) (Q : T → Env → Prop) (e : Env) : List T → Prop := fun ts => ts.length < sizeLine ∧ Q .non (e.set i (some (.own (ts ++ [t]))))
theorem k_app2 {i : Nat} : kApp2 i t Q e ts = (ts.length < sizeLine ∧ Q .non (e.set i (some (.own (ts ++ [t]))))) := rfl
def kApp1 (i : Nat) (Q : T → Env → Prop) : T → Env → Prop := fun t e => OptP (ownAt e i) (kApp2 i t Q e)
theorem k_app1 {i : Nat} : kApp1 i Q t e = OptP (ownAt e i) (kApp2 i t Q e) := rfl
def kApp (i : Nat) (m : E) (Q : T → Env → Prop) (X : Exc → Env → Prop) (e : Env) : List T → Prop := fun _ => SatR (m e) (kApp1 i Q) X
theorem k_app {i : Nat} : kApp i m Q X e ts = SatR (m e) (kApp1 i Q) X := rfl
theorem w_append {i : Nat} : SatR (appendE i m e) Q X = OptP (ownAt e i) (kApp i m Q X e) := by
  unfold appendE
  cases ownAt e i with
  | none => rfl
  | some us =>
    simp only [satR_bind, optP_some, k_app]
    congr 1; funext t e1
    rw [k_app1]
    cases ownAt e1 i with
    | none => rfl
    | some ts => exact (satR_ite).trans ite_false_and
def kPop2 (i : Nat) (Q : T → Env → Prop) (e : Env) (ts : List T) : T → Prop := fun t => noOwn t = true ∧ Q t (e.set i (some (.own ts.dropLast)))
theorem k_pop2 {i : Nat} : kPop2 i Q e ts t = (noOwn t = true ∧ Q t (e.set i (some (.own ts.dropLast)))) := rfl
def kPop (i : Nat) (Q : T → Env → Prop) (e : Env) : List T → Prop := fun ts => OptP ts[ts.length - 1]? (kPop2 i Q e ts)
theorem k_pop {i : Nat} : kPop i Q e ts = OptP ts[ts.length - 1]? (kPop2 i Q e ts) := rfl
theorem w_pop {i : Nat} : SatR (popE i e) Q X = OptP (ownAt e i) (kPop i Q e) := by
  unfold popE
  cases ownAt e i with
  | none => rfl
  | some ts =>
    rw [optP_some, k_pop]
    show SatR (match ts[ts.length - 1]? with
      | some t => if noOwn t then .ok t (e.set i (some (.own ts.dropLast))) else .no
      | none => .no) Q X = _
    cases ts[ts.length - 1]? with
    | none => rfl
    | some t => exact (satR_ite).trans ite_false_and
def kIns3 (i : Nat) (Q : T → Env → Prop) (e : Env) : List T → Prop := fun us => Q .non (e.set i (some (.own us)))
theorem k_ins3 {i : Nat} : kIns3 i Q e ts = Q .non (e.set i (some (.own ts))) := rfl
def kIns2 (i : Nat) (j t : T) (Q : T → Env → Prop) (e : Env) : List T → Prop := fun ts => OptP (insT ts j t) (kIns3 i Q e)
theorem k_ins2 {i : Nat} {j : T} : kIns2 i j t Q e ts = OptP (insT ts j t) (kIns3 i Q e) := rfl
def kIns1 (i : Nat) (j : T) (Q : T → Env → Prop) : T → Env → Prop := fun t e => OptP (ownAt e i) (kIns2 i j t Q e)
theorem k_ins1 {i : Nat} {j : T} : kIns1 i j Q t e = OptP (ownAt e i) (kIns2 i j t Q e) := rfl
def kIns0 (i : Nat) (m : E) (Q : T → Env → Prop) (X : Exc → Env → Prop) : T → Env → Prop := fun j e => SatR (m e) (kIns1 i j Q) X
theorem k_ins0 {i : Nat} {j : T} : kIns0 i m Q X j e = SatR (m e) (kIns1 i j Q) X := rfl
def kIns (i : Nat) (k m : E) (Q : T → Env → Prop) (X : Exc → Env → Prop) (e : Env) : List T → Prop := fun _ => SatR (k e) (kIns0 i m Q X) X
theorem k_ins {i : Nat} {k : E} : kIns i k m Q X e ts = SatR (k e) (kIns0 i m Q X) X := rfl
theorem w_insert {i : Nat} {k : E} : SatR (insertE i k m e) Q X = OptP (ownAt e i) (kIns i k m Q X e) := by
  unfold insertE
  cases ownAt e i with
  | none => rfl
  | some us =>
    simp only [satR_bind, optP_some, k_ins]
    congr 1; funext j e1; rw [k_ins0]; congr 1; funext t e2
    rw [k_ins1]
    cases ownAt e2 i with
    | none => rfl
    | some ts =>
      rw [optP_some, k_ins2]
      show SatR (match insT ts j t with | some us => .ok .non (e2.set i (some (.own us))) | none => .no) Q X = _
      cases insT ts j t <;> rfl
def kIt (Qs : List T → Env → Prop) : T → Env → Prop := fun x e1 => OptP (itsT x) (kAt Qs e1)
theorem k_it : kIt Qs x e = OptP (itsT x) (kAt Qs e) := rfl
theorem w_itm : SatR (itm m e) Qs X = SatR (m e) (kIt Qs) X := by unfold itm; simp only [satR_bind, satR_optR]; rfl
def kRng (Qs : List T → Env → Prop) : List T → Env → Prop := fun x e1 => OptP (rngT x) (kAt Qs e1)
theorem k_rng : kRng Qs xs e = OptP (rngT xs) (kAt Qs e) := rfl
theorem w_rng {m : A} : SatR (rng m e) Qs X = SatR (m e) (kRng Qs) X := by unfold rng; simp only [satR_bind, satR_optR]; rfl
def kLc2 (vs : List Nat) (e1 : Env) (Q : T → Env → Prop) : List T → Env → Prop := fun ts e2 => Q (.own ts) (unwipe e1 e2 vs)
theorem k_lc2 {vs : List Nat} : kLc2 vs e1 Q ts e = Q (.own ts) (unwipe e1 e vs) := rfl
def kLc (f : T → Env → Option Env) (tt : C) (te : E) (vs : List Nat) (Q : T → Env → Prop) (X : Exc → Env → Prop) : List T → Env → Prop := fun its e1 => calmL e1 vs = true ∧ SatR (lcL f tt te vs its [] (wipeE e1 vs)) (kLc2 vs e1 Q) X
theorem k_lc {f : T → Env → Option Env} {tt : C} {te : E} {vs : List Nat} : kLc f tt te vs Q X xs e = (calmL e vs = true ∧ SatR (lcL f tt te vs xs [] (wipeE e vs)) (kLc2 vs e Q) X) := rfl
theorem w_lcM {it : A} {f : T → Env → Option Env} {tt : C} {te : E} {vs : List Nat} : SatR (lcM it f tt te vs e) Q X = SatR (it e) (kLc f tt te vs Q X) X := by
  unfold lcM; simp only [satR_bind, satR_ite, satR_ok]
  congr 1; funext ts e1; exact ite_false_and
theorem w_as0 : SatR (evalAs [] e) Qx X = Qx [] e := rfl
def kAs2 (o : Option T) (Qx : List (Option T) → Env → Prop) : List (Option T) → Env → Prop := fun xs e => Qx (o :: xs) e
theorem k_as2 {o : Option T} {xs : List (Option T)} : kAs2 o Qx xs e = Qx (o :: xs) e := rfl
def kAs1 (r : List AE) (Qx : List (Option T) → Env → Prop) (X : Exc → Env → Prop) : T → Env → Prop := fun t e => SatR (evalAs r e) (kAs2 (some t) Qx) X
theorem k_as1 {r : List AE} : kAs1 r Qx X t e = SatR (evalAs r e) (kAs2 (some t) Qx) X := rfl
theorem w_asv {r : List AE} : SatR (evalAs (.v m :: r) e) Qx X = SatR (m e) (kAs1 r Qx X) X := by
  conv => lhs; unfold evalAs
  simp only [satR_bind, satR_ok]; rfl
theorem w_ass {j : Nat} {r : List AE} : SatR (evalAs (.s j :: r) e) Qx X = OptP e[j]?.join fun _ => SatR (evalAs r e) (kAs2 none Qx) X := by
  conv => lhs; unfold evalAs
  cases e[j]?.join with
  | none => rfl
  | some t => simp only [satR_bind, satR_ok, optP_some]; rfl
def kRet (n : Nat) (xs : List (Option T)) (ls : List Nat) (Q : T → Env → Prop) (e : Env) : T → List T → Prop := fun t outs => okR n xs t outs = true ∧ Q t (putO e ls outs)
theorem k_ret {n : Nat} {xs : List (Option T)} {ls : List Nat} {outs : List T} : kRet n xs ls Q e t outs = (okR n xs t outs = true ∧ Q t (putO e ls outs)) := rfl
def kThr (n : Nat) (xs : List (Option T)) (ls : List Nat) (X : Exc → Env → Prop) (e : Env) : Exc → List T → Prop := fun x outs => okX n xs x outs = true ∧ X x (putO e ls outs)
theorem k_thr {n : Nat} {xs : List (Option T)} {ls : List Nat} {outs : List T} {z : Exc} : kThr n xs ls X e z outs = (okX n xs z outs = true ∧ X z (putO e ls outs)) := rfl
theorem w_callR {f : F} {ls : List (Nat × Nat)} {xs : List (Option T)} {ts : List T} : SatR (callR f ls xs ts e) Q X = SatF (f ts) (kRet ls.length xs (ls.map (·.2)) Q e) (kThr ls.length xs (ls.map (·.2)) X e) := by
  unfold callR
  cases f ts with
  | no => rfl
  | ok t outs => exact (satR_ite).trans ite_false_and
  | ex x outs => exact (satR_ite).trans ite_false_and
def kCall2 (f : F) (n : Nat) (dts : List T) (xs : List (Option T)) (ls : List Nat) (Q : T → Env → Prop) (X : Exc → Env → Prop) (e : Env) : List T → Prop := fun ts => SatF (f (ts ++ dts)) (kRet n xs ls Q e) (kThr n xs ls X e)
theorem k_call2 {f : F} {n : Nat} {dts : List T} {xs : List (Option T)} {ls : List Nat} : kCall2 f n dts xs ls Q X e ts = SatF (f (ts ++ dts)) (kRet n xs ls Q e) (kThr n xs ls X e) := rfl
def kCall (f : F) (dts : List T) (as : List AE) (Q : T → Env → Prop) (X : Exc → Env → Prop) : List (Option T) → Env → Prop := fun xs e => OptP (fillA as xs e) (kCall2 f (links 0 as).length dts xs ((links 0 as).map (·.2)) Q X e)
theorem k_call {f : F} {dts : List T} {as : List AE} {xs : List (Option T)} : kCall f dts as Q X xs e = OptP (fillA as xs e) (kCall2 f (links 0 as).length dts xs ((links 0 as).map (·.2)) Q X e) := rfl
theorem w_callE {f : F} {dts : List T} {as : List AE} : SatR (callE f dts as e) Q X = SatR (evalAs as e) (kCall f dts as Q X) X := by
  unfold callE
  simp only [satR_bind]
  congr 1; funext xs e1
  rw [k_call]
  cases fillA as xs e1 with
  | none => rfl
  | some ts => exact w_callR
def kCallK (f : F) (idx : List Nat) (as : List AE) (Q : T → Env → Prop) (X : Exc → Env → Prop) : List (Option T) → Env → Prop := fun xs e => OptP (fillA as xs e) fun ts => SatF (f (permL .non idx ts)) (kRet 0 xs [] Q e) (kThr 0 xs [] X e)
theorem k_callK {f : F} {idx : List Nat} {as : List AE} {xs : List (Option T)} : kCallK f idx as Q X xs e = OptP (fillA as xs e) fun ts => SatF (f (permL .non idx ts)) (kRet 0 xs [] Q e) (kThr 0 xs [] X e) := rfl
theorem w_callK {f : F} {idx : List Nat} {as : List AE} : SatR (callK f idx as e) Q X = SatR (evalAs as e) (kCallK f idx as Q X) X := by
  unfold callK
  simp only [satR_bind]
  congr 1; funext xs e1
  rw [k_callK]
  cases fillA as xs e1 with
  | none => rfl
  | some ts => exact w_callR (ls := [])
end
section
variable {D : OD} {e : Env} {t : T} {x : Bool}
theorem satO_nx : SatO (.nx e) D = D.nx e := rfl
theorem satO_rt : SatO (.rt t e) D = D.rt t e := rfl
theorem satO_of {α : Type} {r : R α} {f : α → Env → O} : SatO (O.of r f) D = SatR r (fun a e => SatO (f a e) D) D.ex := by cases r <;> rfl
theorem satO_ite {c : Prop} {inst : Decidable c} {a b : O} : SatO (if c then a else b) D = if c then SatO a D else SatO b D := by split <;> rfl
def Later (b : S) (D : OD) : Env → Prop := fun e => SatO (b e) D
theorem later {b : S} : Later b D e = SatO (b e) D := rfl
theorem w_seq {a b : S} : SatO (seq a b e) D = SatO (a e) ⟨Later b D, D.rt, D.bk, D.ct, D.ex⟩ := by unfold seq; cases a e <;> rfl
theorem w_skip : SatO (skip e) D = D.nx e := rfl
theorem w_brk : SatO (brk e) D = D.bk e := rfl
theorem w_cnt : SatO (cnt e) D = D.ct e := rfl
theorem w_ret {m : E} : SatO (ret m e) D = SatR (m e) D.rt D.ex := by unfold ret; rw [satO_of]; rfl
theorem w_retN : SatO (retN e) D = D.rt .non e := rfl
def kNx (D : OD) : T → Env → Prop := fun _ e1 => D.nx e1
theorem k_nx : kNx D t e = D.nx e := rfl
theorem w_exp {m : E} : SatO (exp m e) D = SatR (m e) (kNx D) D.ex := by unfold exp; rw [satO_of]; rfl
def kIfS (a b : S) (D : OD) : Bool → Env → Prop := fun x e1 => if x = true then SatO (a e1) D else SatO (b e1) D
theorem k_ifS {a b : S} : kIfS a b D x e = if x = true then SatO (a e) D else SatO (b e) D := rfl
theorem w_ifS {c : C} {a b : S} : SatO (ifS c a b e) D = SatR (c e) (kIfS a b D) D.ex := by unfold ifS; simp only [satO_of, satO_ite]; rfl
def kAsg (i : Nat) (D : OD) : T → Env → Prop := fun t e1 => D.nx (e1.set i (some t))
theorem k_asg {i : Nat} : kAsg i D t e = D.nx (e.set i (some t)) := rfl
theorem w_asg {i : Nat} {m : E} : SatO (asg i m e) D = SatR (m e) (kAsg i D) D.ex := by unfold asg; rw [satO_of]; rfl
def kSet3 (i : Nat) (t : T) (ts : List T) (D : OD) (e : Env) : Nat → Prop := fun q => D.nx (e.set i (some (.own (ts.set q t))))
theorem k_set3 {i : Nat} {ts : List T} {q : Nat} : kSet3 i t ts D e q = D.nx (e.set i (some (.own (ts.set q t)))) := rfl
def kSet2 (i : Nat) (t j : T) (D : OD) (e : Env) : List T → Prop := fun ts => OptP ((intOf j).bind fun n => n.bind fun n => ixN ts.length n) (kSet3 i t ts D e)
theorem k_set2i {i : Nat} {j : Int} {ts : List T} : kSet2 i t (.int j) D e ts = OptP (ixN ts.length j) (kSet3 i t ts D e) := rfl
def kSet1 (i : Nat) (t : T) (D : OD) : T → Env → Prop := fun j e => OptP (ownAt e i) (kSet2 i t j D e)
theorem k_set1 {i : Nat} {j : T} : kSet1 i t D j e = OptP (ownAt e i) (kSet2 i t j D e) := rfl
def kSet0 (i : Nat) (k : E) (D : OD) : T → Env → Prop := fun t e => OptP (ownAt e i) fun _ => SatR (k e) (kSet1 i t D) D.ex
theorem k_set0 {i : Nat} {k : E} : kSet0 i k D t e = OptP (ownAt e i) fun _ => SatR (k e) (kSet1 i t D) D.ex := rfl
theorem w_setIx {i : Nat} {k m : E} : SatO (setIx i k m e) D = SatR (m e) (kSet0 i k D) D.ex := by
  unfold setIx; simp only [satO_of]
  congr 1; funext t e1
  rw [k_set0]
  cases ownAt e1 i with
  | none => rfl
  | some us =>
    simp only [satO_of, optP_some]
    congr 1; funext j e2
    rw [k_set1]
    unfold setAt
    cases ownAt e2 i with
    | none => rfl
    | some ts =>
      cases j with
      | int n =>
        show SatO (match ixN ts.length n with | some q => .nx (e2.set i (some (.own (ts.set q t)))) | none => .no) D = OptP (ixN ts.length n) _
        cases ixN ts.length n <;> rfl
      | _ => rfl
def kFor (f : T → Env → Option Env) (b : S) (D : OD) : List T → Env → Prop := fun its e => SatO (forL f b its e) D
theorem k_for {f : T → Env → Option Env} {b : S} {its : List T} : kFor f b D its e = SatO (forL f b its e) D := rfl
theorem w_forS {it : A} {f : T → Env → Option Env} {b : S} : SatO (forS it f b e) D = SatR (it e) (kFor f b D) D.ex := by unfold forS; rw [satO_of]; rfl
def Next (f : T → Env → Option Env) (b : S) (ts : List T) (D : OD) : Env → Prop := fun e => SatO (forL f b ts e) D
theorem next {f : T → Env → Option Env} {b : S} {ts : List T} : Next f b ts D e = SatO (forL f b ts e) D := rfl
def kTurn (f : T → Env → Option Env) (b : S) (ts : List T) (D : OD) : Env → Prop := fun e => SatO (b e) ⟨Next f b ts D, D.rt, D.nx, Next f b ts D, D.ex⟩
theorem k_turn {f : T → Env → Option Env} {b : S} {ts : List T} : kTurn f b ts D e = SatO (b e) ⟨Next f b ts D, D.rt, D.nx, Next f b ts D, D.ex⟩ := rfl
theorem forL_inv {f : T → Env → Option Env} {b : S} (I : List T → Env → Prop) (step : ∀ t ts e, I (t :: ts) e → OptP (f t e) fun e1 => SatO (b e1) ⟨I ts, D.rt, D.nx, I ts, D.ex⟩) (done : ∀ e, I [] e → D.nx e) : ∀ its e, I its e → SatO (forL f b its e) D
  | [], e, h => done e h
  | t :: ts, e, h => by
    have p := step t ts e h
    unfold forL
    cases z : f t e with
    | none => rw [z] at p; exact p.elim
    | some e1 =>
      rw [z] at p
      replace p : SatO (b e1) ⟨I ts, D.rt, D.nx, I ts, D.ex⟩ := p
      show SatO (match b e1 with
        | .nx e2 => forL f b ts e2
        | .ct e2 => forL f b ts e2
        | .bk e2 => .nx e2
        | o => o) D
      cases q : b e1 with
      | nx e2 => rw [q] at p; exact forL_inv I step done ts e2 p
      | ct e2 => rw [q] at p; exact forL_inv I step done ts e2 p
      | bk e2 => rw [q] at p; exact p
      | rt t e2 => rw [q] at p; exact p
      | ex x e2 => rw [q] at p; exact p
      | no => rw [q] at p; exact p
theorem lcL_inv {Q : List T → Env → Prop} {X : Exc → Env → Prop} {f : T → Env → Option Env} {tt : C} {te : E} {vs : List Nat} (I : List T → List T → Env → Prop)
    (step : ∀ t ts acc e, I (t :: ts) acc e → OptP (f t e) fun e1 => SatR (tt e1) (fun b e2 => if b = true then SatR (te e2) (fun y e3 => acc.length < sizeLine ∧ calmAt e3 vs = true ∧ I ts (acc ++ [y]) (wipeE e3 vs)) X0 else calmAt e2 vs = true ∧ I ts acc (wipeE e2 vs)) X0) (done : ∀ acc e, I [] acc e → Q acc e) : ∀ its acc e, I its acc e → SatR (lcL f tt te vs its acc e) Q X
  | [], acc, e, h => done acc e h
  | t :: ts, acc, e, h => by
    have p := step t ts acc e h
    unfold lcL
    cases z : f t e with
    | none => rw [z] at p; exact p.elim
    | some e1 =>
      rw [z] at p
      dsimp only [optP_some] at p ⊢
      cases q : tt e1 with
      | no => rw [q] at p; exact p.elim
      | ex x e2 => rw [q] at p; exact p.elim
      | ok b e2 =>
        rw [q] at p
        dsimp only [satR_ok] at p ⊢
        cases b with
        | true =>
          rw [if_pos rfl] at p ⊢
          cases q2 : te e2 with
          | no => rw [q2] at p; exact p.elim
          | ex x e3 => rw [q2] at p; exact p.elim
          | ok y e3 =>
            rw [q2] at p
            obtain ⟨p1, p2, p3⟩ := p
            show SatR (if acc.length < sizeLine ∧ calmAt e3 vs = true then lcL f tt te vs ts (acc ++ [y]) (wipeE e3 vs) else .no) Q X
            rw [if_pos ⟨p1, p2⟩]
            exact lcL_inv I step done ts _ _ p3
        | false =>
          rw [if_neg Bool.false_ne_true] at p ⊢
          obtain ⟨p2, p3⟩ := p
          rw [if_pos p2]
          exact lcL_inv I step done ts _ _ p3
end
def kEnd (os : List Nat) (Q : List T → Prop) : Env → Prop := fun e => OptP (outsO e os) Q
theorem k_end {os : List Nat} {Q : List T → Prop} {e : Env} : kEnd os Q e = OptP (outsO e os) Q := rfl
def kEndT {α : Type} (os : List Nat) (Q : α → List T → Prop) : α → Env → Prop := fun t e => OptP (outsO e os) (Q t)
theorem k_endT {α : Type} {os : List Nat} {Q : α → List T → Prop} {t : α} {e : Env} : kEndT os Q t e = OptP (outsO e os) (Q t) := rfl
theorem w_outM {os : List Nat} {o : O} {Q : T → List T → Prop} {X : Exc → List T → Prop} : SatF (outM os o) Q X = SatO o ⟨kEnd os (Q .non), kEndT os Q, fun _ => False, fun _ => False, kEndT os X⟩ := by
  cases o with
  | nx e => dsimp only [SatO, kEnd, outM]; cases outsO e os <;> rfl
  | rt t e => dsimp only [SatO, kEndT, outM]; cases outsO e os <;> rfl
  | ex x e => dsimp only [SatO, kEndT, outM]; cases outsO e os <;> rfl
  | _ => rfl
theorem w_fnM {N : Nat} {os : List Nat} {b : S} {ts : List T} {Q : T → List T → Prop} {X : Exc → List T → Prop} : SatF (fnM N os b ts) Q X = SatO (b (ts.map some ++ List.replicate (N - ts.length) none)) ⟨kEnd os (Q .non), kEndT os Q, fun _ => False, fun _ => False, kEndT os X⟩ := w_outM
theorem w_fnX {N : Nat} {os : List Nat} {b : Exc → S} {x : Exc} {ts : List T} {Q : T → List T → Prop} {X : Exc → List T → Prop} : SatF (fnX N os b x ts) Q X = SatO (b x (none :: ts.map some ++ List.replicate (N - (ts.length + 1)) none)) ⟨kEnd os (Q .non), kEndT os Q, fun _ => False, fun _ => False, kEndT os X⟩ := w_outM
def kOut (i : T) (Q : List T → Prop) : List T → Prop := fun ts => Q (i :: ts)
theorem k_out {i : T} {Q : List T → Prop} {ts : List T} : kOut i Q ts = Q (i :: ts) := rfl
theorem w_out0 {e : Env} {Q : List T → Prop} : OptP (outsO e []) Q = Q [] := rfl
theorem w_out1 {e : Env} {i : Nat} {is : List Nat} {Q : List T → Prop} : OptP (outsO e (i :: is)) Q = OptP e[i]?.join fun t => OptP (outsO e is) (kOut t Q) := by
  conv => lhs; unfold outsO
  cases e[i]?.join <;> cases outsO e is <;> rfl
theorem SatF.mono {r : FR} {Q Q' : T → List T → Prop} {X X' : Exc → List T → Prop} (h : SatF r Q X) (hq : ∀ t ts, Q t ts → Q' t ts) (hx : ∀ x ts, X x ts → X' x ts) : SatF r Q' X' := by
  cases r with
  | ok t ts => exact hq _ _ h
  | ex x ts => exact hx _ _ h
  | no => exact h.elim
theorem SatF.use {r : FR} {Q Q' : T → List T → Prop} {X' : Exc → List T → Prop} (h : SatF r Q X0) (hq : ∀ t ts, Q t ts → Q' t ts) : SatF r Q' X' := h.mono hq fun _ _ z => z.elim
theorem SatF.eq {r : FR} {t : T} {ts : List T} (h : SatF r (fun u us => u = t ∧ us = ts) X0) : r = .ok t ts := by
  cases r with
  | ok u us => obtain ⟨rfl, rfl⟩ := h; rfl
  | ex x us => exact h.elim
  | no => exact h.elim
theorem satF_ok {t : T} {ts : List T} {Q : T → List T → Prop} {X : Exc → List T → Prop} : SatF (.ok t ts) Q X = Q t ts := rfl
end Mir
namespace Mir
open PySem PySem.Spec L2
def oexcB (K : PySem.W.Frag) (C : Addr) : Bool := match K.lookup C with
  | some o => (match o.cls, o.data with
    | .type t, .cls cd => (match cd.mro, o.slots.toList with
      | .ref C2 :: bm, [_, _, _, _, some (.builtin n), _] => decide (t = "type") && (decide (C2 = C) && (decide (n = "ValueError.__new__") && (cd.hasDict && (!cd.hasDel && HandSPX.refsVE bm))))
      | _, _ => false)
    | _, _ => false)
  | none => false
def findB (K : PySem.W.Frag) (C : Addr) (n : Str) (v : Option Value) : Bool := decide (PySem.W.findIn K (.ref C) n = some v)
def excFB (K : PySem.W.Frag) (C : Addr) : Bool := oexcB K C && (findB K C "__setattr__" (some (.builtin "object.__setattr__")) && (decide (PySem.W.subIn K (.ref C) (.type "BaseException") = some true) && (decide (PySem.W.typeIn K (.ref C) = some (.type "type")) && (PySem.W.keepIn K (.ref C) &&
  (findB K C "__getattribute__" (some (.builtin "BaseException.__getattribute__")) && (findB K C "__getattr__" none && (PySem.W.hasDictIn K C && (findB K C "__class__" (some (.builtin "object.__class__")) &&
  (decide (PySem.W.specialIn K (.builtin "object.__class__") "__get__" = some (some (.builtin "getset_descriptor.__get__"))) && (decide (PySem.W.takesIn K (.builtin "object.__class__") = some true) && decide (PySem.W.mroIn K C (.type "object") = some true)))))))))))
structure ExcF (K : PySem.W.Frag) (C : Addr) : Prop where
  ox : OexC K C
  xf : XfC K C
  cl : (PySem.W.clsIn K C).isSome = true
  ca : PySem.W.findIn K (.ref C) "__class__" = some (some (.builtin "object.__class__"))
  sp : PySem.W.specialIn K (.builtin "object.__class__") "__get__" = some (some (.builtin "getset_descriptor.__get__"))
  tk : PySem.W.takesIn K (.builtin "object.__class__") = some true
  mr : PySem.W.mroIn K C (.type "object") = some true
theorem oexcB_ok {K : PySem.W.Frag} {C : Addr} (h : oexcB K C = true) : ∃ nm q N bs bm sn sub ab col dd k0 k1 k2 k3 k5, K.lookup C = some (excClassObj nm q C N bs bm true sn sub ab col dd k0 k1 k2 k3 k5 "ValueError.__new__") ∧ HandSPX.refsVE bm = true := by
  unfold oexcB at h
  split at h
  · rename_i o ho
    obtain ⟨oc, od, dt, sl⟩ := o
    split at h
    · rename_i t cd e1 e2
      dsimp only at e1 e2
      subst e1 e2
      split at h
      · rename_i C2 bm k0 k1 k2 k3 n k5 hm hs
        simp only [Bool.and_eq_true, decide_eq_true_eq, Bool.not_eq_true'] at h
        obtain ⟨rfl, rfl, rfl, h1, h2, h3⟩ := h
        obtain ⟨nm, bs, mro, ns, qn, hd, sn, sub, ab, col, del⟩ := cd
        dsimp only at hm h1 h2
        subst hm h1 h2
        have hsl : sl = #[k0, k1, k2, k3, some (.builtin "ValueError.__new__"), k5] := by
          obtain ⟨l⟩ := sl
          dsimp only at hs
          rw [hs]
        subst hsl
        exact ⟨nm, qn, ns, bs, bm, sn, sub, ab, col, od, k0, k1, k2, k3, k5, ho, h3⟩
      · cases h
    · cases h
  · cases h
theorem excFB_ok {K : PySem.W.Frag} {C : Addr} (h : excFB K C = true) : ExcF K C := by
  unfold excFB findB at h
  simp only [Bool.and_eq_true, decide_eq_true_eq] at h
  obtain ⟨h1, h2, h3, h4, h5, h6, h7, h8, h9, h10, h11, h12⟩ := h
  have z := oexcB_ok h1
  refine ⟨⟨z, h2, h3, h4, h5⟩, ⟨h6, h7, h3, h8⟩, ?_, h9, h10, h11, h12⟩
  obtain ⟨nm, q, N, bs, bm, sn, sub, ab, col, dd, k0, k1, k2, k3, k5, hC, _⟩ := z
  unfold PySem.W.clsIn
  rw [hC] <;> rfl
def subX (c y : Str) : Bool := c == y || (y == ("TurnError" : Str) || y == ("ValueError" : Str))
abbrev XTab := List (Str × List Str)
def hasX (tab : XTab) (c : Str) : Bool := tab.any fun p => p.1 == c
def fldsX (tab : XTab) (c : Str) : List Str := match tab.find? fun p => p.1 == c with
  | some p => p.2
  | none => []
structure XF (K : PySem.W.Frag) (mg : Str → Option Value) (tab : XTab) : Prop where
  cls : ∀ p ∈ tab, ∃ C, mg p.1 = some (.ref C) ∧ ExcF K C ∧ ∀ f ∈ p.2, PySem.W.findIn K (.ref C) f = some none
  isi : ∀ p ∈ tab, ∀ q ∈ tab, ∀ C D, mg p.1 = some (.ref C) → mg q.1 = some (.ref D) → PySem.W.kitOne K (.ref C) (.ref D) = some (subX p.1 q.1) ∧ PySem.W.exmOne K (.ref C) (.ref D) = some (subX p.1 q.1)
  isv : ∀ p ∈ tab, ∀ C, mg p.1 = some (.ref C) → PySem.W.kitOne K (.ref C) (.type "ValueError") = some true
def xfB (tab : XTab) (K : PySem.W.Frag) : Bool := (tab.all fun p => decide (PySem.W.nsIn K mainGlobals p.1 = some (some (.ref (He.ga K p.1)))) && (excFB K (He.ga K p.1) && p.2.all fun f => findB K (He.ga K p.1) f none)) &&
  ((tab.all fun p => tab.all fun q => decide (PySem.W.kitOne K (.ref (He.ga K p.1)) (.ref (He.ga K q.1)) = some (subX p.1 q.1)) && decide (PySem.W.exmOne K (.ref (He.ga K p.1)) (.ref (He.ga K q.1)) = some (subX p.1 q.1))) &&
    tab.all fun p => decide (PySem.W.kitOne K (.ref (He.ga K p.1)) (.type "ValueError") = some true))
theorem xfB_ok {tab : XTab} {K : PySem.W.Frag} {h : Heap} {mg : Str → Option Value} (X : K.In h) (G : h.Ns mainGlobals mg) (c : xfB tab K = true) : XF K mg tab := by
  unfold xfB at c
  obtain ⟨c1, c2⟩ := Bool.and_eq_true_iff.mp c
  obtain ⟨c2, c3⟩ := Bool.and_eq_true_iff.mp c2
  have g : ∀ p ∈ tab, mg p.1 = some (.ref (He.ga K p.1)) ∧ ExcF K (He.ga K p.1) ∧ ∀ f ∈ p.2, PySem.W.findIn K (.ref (He.ga K p.1)) f = some none := fun p hp => by
    obtain ⟨a, b⟩ := Bool.and_eq_true_iff.mp (List.all_eq_true.mp c1 p hp)
    obtain ⟨b, d⟩ := Bool.and_eq_true_iff.mp b
    exact ⟨PySem.W.mg_of X G (of_decide_eq_true a), excFB_ok b, fun f hf => of_decide_eq_true (List.all_eq_true.mp d f hf)⟩
  have at_ : ∀ p ∈ tab, ∀ C, mg p.1 = some (.ref C) → C = He.ga K p.1 := fun p hp C e => by
    rw [(g p hp).1] at e
    cases e
    rfl
  refine ⟨fun p hp => ⟨_, g p hp⟩, fun p hp q hq C D e1 e2 => ?_, fun p hp C e1 => ?_⟩
  · rw [at_ p hp C e1, at_ q hq D e2]
    obtain ⟨a, b⟩ := Bool.and_eq_true_iff.mp (List.all_eq_true.mp (List.all_eq_true.mp c2 p hp) q hq)
    exact ⟨of_decide_eq_true a, of_decide_eq_true b⟩
  · rw [at_ p hp C e1]
    exact of_decide_eq_true (List.all_eq_true.mp c3 p hp)
theorem hasX_mem {tab : XTab} {c : Str} (h : hasX tab c = true) : ∃ p ∈ tab, p.1 = c := by
  obtain ⟨p, hp, e⟩ := List.any_eq_true.mp h
  exact ⟨p, hp, by simpa using e⟩
theorem fldsX_mem {tab : XTab} {c f : Str} (h : f ∈ fldsX tab c) : ∃ p ∈ tab, p.1 = c ∧ f ∈ p.2 := by
  unfold fldsX at h
  split at h
  · rename_i p e
    exact ⟨p, List.mem_of_find?_eq_some e, by simpa using List.find?_some e, h⟩
  · cases h
structure PinZ (X : Cx) (z : Zx) : Prop where
  ex : ∃ oe vs, (z.a, oe) ∈ X.pn ∧ Zc z.cls z.d oe ∧ oe.data = .fields vs ∧ vs[2]? = some .none
  hd : X.A.handled = some (.ref z.a)
  mg : X.mg z.x.cls = some z.cls
theorem pin_at {X : Cx} {z : Zx} (P : PinZ X z) {pins : List (Addr × Obj)} {σ : St} {H : Hp} {s : Shared} {C : Addr} {x : Exc} {B : Hp} (I : Inv X pins σ H s) (hC : z.cls = .ref C) (sb : Same B H) (b : ExB X.K B x z.d) : ∃ oe od, PySem.W.InstAt s.heap z.a oe C od ∧ oe.dict = z.d := by
  obtain ⟨oe, vs, hp, hz, hd, _⟩ := P.ex
  obtain ⟨hget, _⟩ := I.pin (z.a, oe) (List.mem_append_left _ hp)
  obtain ⟨oc, oD, oda, osl⟩ := oe
  obtain ⟨h1, h2⟩ := hz
  dsimp only at h1 h2 hd
  subst h1 h2 hd
  rcases b with ⟨_, e⟩ | ⟨dd, fs, e, hb, _⟩
  · exact ⟨_, none, ⟨hget, hC, rfl, by rw [e]; trivial⟩, rfl⟩
  · have ho : ObjOk X.prog X.w H s.heap dd (.xd fs) := I.hok dd _ (sb _ _ hb)
    obtain ⟨mA, hns, _⟩ := ho
    obtain ⟨od, ho, _⟩ := lookIn_ns hns
    exact ⟨_, some od, ⟨hget, hC, rfl, by rw [e]; exact ho⟩, rfl⟩
def rIsZ (X : Cx) (z : Zx) : List V → Hp → VK → Prop := fun xs H Q => ∃ (c : V) (cv : Value) (b : Bool) (C : Addr) (x : Exc) (B : Hp), xs = [.ref z.a, c] ∧ (∀ u, RelV c u → u = cv) ∧ z.cls = .ref C ∧ ExcF X.K C ∧ PySem.W.kitOne X.K (.ref C) cv = some b ∧ Same B H ∧ ExB X.K B x z.d ∧ Q (.bl b) H
theorem call_isZ {X : Cx} {z : Zx} (P : PinZ X z) : CallR X (.builtin "isinstance") (rIsZ X z) := by
  intro pins s σ H xs us Q I r h
  obtain ⟨c, cv, b, C, x, B, rfl, hcv, hC, F, e, sb, eb, q⟩ := h
  cases r with
  | cons rx rr =>
    cases rr with
    | cons rt rr =>
      cases rr
      cases rx
      have ec := hcv _ rt
      subst ec
      obtain ⟨oe, od, J, _⟩ := pin_at P I hC sb eb
      exact PySem.W.kia_one (PySem.W.kitx_exc (ox := oe) (od := od) F.cl F.xf.ga F.xf.gg F.xf.exC F.ca F.sp F.tk F.mr) I.kIn J e (fun z => nomatch z) fun tk => ⟨.bl b, H, I.kept (t' := tk) fun _ _ z => z, rfl, q⟩
def isxE (tab : XTab) (x : Exc) (y : Str) : E := fun e => if hasX tab x.cls = true then .ok (.bl (subX x.cls y)) e else .no
theorem slot_some {σ : St} {i : Nat} {v : V} (h : σ[i]?.join = some v) : σ[i]? = some (some v) := by
  cases z : σ[i]? with
  | none => rw [z] at h; cases h
  | some u => rw [z] at h; exact congrArg some h
section
variable {X : Cx} {W : WZ} {z : Zx} {tab : XTab}
theorem me_isxV {e y call : Expr} {cv : Value} {c : V} {yn : Str} (hz : W.z = some z) (P : PinZ X z) (F : XF X.K X.mg tab) (pv : PE X e (tVar z.i)) (hy : PE X y (tC c)) (hcv : ∀ u, RelV c u → u = cv) (kt : ∀ p ∈ tab, ∀ C, X.mg p.1 = some (.ref C) → PySem.W.kitOne X.K (.ref C) cv = some (subX p.1 yn))
    (pe : PE X e (tVar z.i) → PE X y (tC c) → PE X call (tCB (rIsZ X z) (tCons (tVar z.i) (tCons (tC c) tNil)))) : ME X W call [] [] (isxE tab z.x yn) := by
  refine ⟨_, pe pv hy, fun B H env σ fp Q r p => ?_⟩
  have xc := r.xc
  rw [hz] at xc
  obtain ⟨_, hs, hb⟩ := xc
  refine ⟨_, slot_some hs, ?_⟩
  unfold isxE at p
  by_cases hc : hasX tab z.x.cls = true
  · rw [if_pos hc] at p
    obtain ⟨q, hq, e1⟩ := hasX_mem hc
    obtain ⟨C, m1, FC, _⟩ := F.cls q hq
    have m2 := P.mg
    rw [← e1, m1] at m2
    have eC : z.cls = .ref C := (Option.some.inj m2).symm
    refine ⟨c, cv, _, C, z.x, B, rfl, hcv, eC, FC, kt q hq C m1, r.sub, hb, ?_⟩
    rw [e1]
    exact p (.bl _) B H fp [] r .refl (.pure vr_bl)
  · rw [if_neg hc] at p; exact p.elim
theorem me_isx {e y call : Expr} {yn : Str} {fl : List Str} (hz : W.z = some z) (P : PinZ X z) (F : XF X.K X.mg tab) (hm : (yn, fl) ∈ tab) (pv : PE X e (tVar z.i)) (hy : ∀ D, X.mg yn = some (.ref D) → PE X y (tC (.ref D)))
    (pe : ∀ {c}, PE X e (tVar z.i) → PE X y (tC c) → PE X call (tCB (rIsZ X z) (tCons (tVar z.i) (tCons (tC c) tNil)))) : ME X W call [] [] (isxE tab z.x yn) := by
  obtain ⟨D, mD, _⟩ := F.cls _ hm
  exact me_isxV hz P F pv (hy D mD) (cv := .ref D) (fun u r => r) (fun p hp C e => (F.isi p hp _ hm C D e mD).1) pe
theorem me_isxVE {e y call : Expr} (hz : W.z = some z) (P : PinZ X z) (F : XF X.K X.mg tab) (pv : PE X e (tVar z.i)) (hy : PE X y (tC (.ty "ValueError")))
    (pe : ∀ {c}, PE X e (tVar z.i) → PE X y (tC c) → PE X call (tCB (rIsZ X z) (tCons (tVar z.i) (tCons (tC c) tNil)))) : ME X W call [] [] (isxE tab z.x "ValueError") :=
  me_isxV hz P F pv hy (cv := .type "ValueError") (fun u r => r) (fun p hp C e => by rw [F.isv p hp C e]; simp [subX]) pe
def tXg (X : Cx) (z : Zx) (f : Str) (te : TE) : TE := fun σ H Q => te σ H fun v H1 => v = .ref z.a ∧ ∃ (C : Addr) (x : Exc) (B : Hp) (fs : List (Str × V)) (dd : Addr) (u : V), z.cls = .ref C ∧ ExcF X.K C ∧ PySem.W.findIn X.K (.ref C) f = some none ∧ Same B H1 ∧ z.d = some dd ∧ B dd = some (.xd fs) ∧ fs.lookup f = some u ∧ Q u H1
theorem pe_xg {e : Expr} {te : TE} {pos : Pos} {n : Str} (P : PinZ X z) (he : PE X e te) (hb : attributeBase e n X.env (eval e X.env) = eval e X.env := by rfl) : PE X (.Attribute e n pos) (tXg X z n te) := by
  refine ⟨fun pins s σ H Q I h => ?_⟩
  refine attr_of hb (thn (he.run pins s σ H _ I h) fun u s1 hh => ?_)
  obtain ⟨v, H1, I1, rx, ev, C, x, B, fs, dd, y, hC, F, hno, sb, ed, hB, hl, q⟩ := hh
  subst ev
  obtain rfl : u = Value.ref z.a := rx
  obtain ⟨oe, vs, hp, hz, hd, _⟩ := P.ex
  obtain ⟨ha, _⟩ := I1.pin (z.a, oe) (List.mem_append_left _ hp)
  have ho : ObjOk X.prog X.w H1 s1.heap dd (.xd fs) := I1.hok dd _ (sb _ _ hB)
  obtain ⟨mA, hns, hr⟩ := ho
  obtain ⟨od, h2, h3⟩ := lookIn_ns hns
  obtain ⟨w, hw, rw'⟩ := RelO.some_of (v := y) (o := mA n) (by rw [← hl]; exact hr n)
  have J : PySem.W.InstAt s1.heap z.a oe C (some od) := ⟨ha, by rw [hz.1, hC], by unfold PySem.W.notCls; rw [hd] <;> rfl, by rw [hz.2, ed]; exact h2⟩
  exact HandSPX.exc_get I1.kIn J F.xf.ga F.xf.gg F.xf.exC (PySem.W.findObj_own F.xf.hdC hno rfl (by rw [h3, hw])) (handed_of rw') ⟨y, H1, I1.tok _, rw', q⟩
def fldE (tab : XTab) (x : Exc) (f : Str) : E := fun e => if (fldsX tab x.cls).contains f = true then optR (x.fields.lookup f) e else .no
theorem FldR.at_ {K : PySem.W.Frag} {B H : Hp} {f : Str} {t : T} : ∀ {ps : List (Str × T)} {fs : List (Str × V)}, FldR K B H ps fs → ps.lookup f = some t → ∃ v, fs.lookup f = some v ∧ VR K B H t v []
  | [], _, _, e => by cases e
  | (g, u) :: ps, fs, h, e => by
    obtain ⟨v, r, rfl, h1, h2⟩ := h
    rw [List.lookup_cons] at e ⊢
    cases z : (f == g) with
    | true => rw [z] at e; cases e; exact ⟨v, rfl, h1⟩
    | false => rw [z] at e; exact FldR.at_ h2 e
theorem me_xf {e : Expr} {pos : Pos} {f : Str} (hz : W.z = some z) (P : PinZ X z) (F : XF X.K X.mg tab) (pv : PE X e (tVar z.i)) (hb : attributeBase e f X.env (eval e X.env) = eval e X.env := by rfl) : ME X W (.Attribute e f pos) [] [] (fldE tab z.x f) := by
  refine ⟨_, pe_xg P pv hb, fun B H env σ fp Q r p => ?_⟩
  have xc := r.xc
  rw [hz] at xc
  obtain ⟨_, hs, hbx⟩ := xc
  refine ⟨_, slot_some hs, rfl, ?_⟩
  unfold fldE at p
  by_cases hc : (fldsX tab z.x.cls).contains f = true
  · rw [if_pos hc] at p
    obtain ⟨q, hq, e1, hf⟩ := fldsX_mem (List.contains_iff_mem.mp hc)
    obtain ⟨C, m1, FC, nf⟩ := F.cls q hq
    have m2 := P.mg
    rw [← e1, m1] at m2
    have eC : z.cls = .ref C := (Option.some.inj m2).symm
    cases l : z.x.fields.lookup f with
    | none => rw [l] at p; exact p.elim
    | some t =>
      rw [l] at p
      rcases hbx with ⟨e2, _⟩ | ⟨dd, fs, e2, hB, fr⟩
      · rw [e2] at l; cases l
      · obtain ⟨u, hu, vr⟩ := fr.at_ l
        exact ⟨C, z.x, B, fs, dd, u, eC, FC, nf f hf, r.sub, e2, hB, hu, p u B H fp [] r .refl (.pure (vr.mono (Same.refl _) fun _ w => nomatch w))⟩
  · rw [if_neg hc] at p; exact p.elim
end
end Mir
namespace Mir
open PySem PySem.Spec L2
def spIni (K : PySem.W.Frag) (flds : List Str) : Sp := fun vs H Q _ => ∃ (a C : Addr) (ys : List V), vs = .ref a :: ys ∧ ys.length = flds.length ∧ OexC K C ∧ (∀ f ∈ flds, PySem.W.findIn K (.ref C) f = some none) ∧ H a = some (exo a C none) ∧
  ∀ d H2, H d = none → d ≠ a → H2 a = some (exo a C (some d)) → H2 d = some (exd d (flds.zip ys).reverse) → (∀ b, b ≠ a → b ≠ d → H2 b = H b) → Q .non H2
theorem spIni_len {K : PySem.W.Frag} {flds : List Str} {ps : List Str} (h : ps.length = flds.length + 1) : ∀ vs H Q E, spIni K flds vs H Q E → vs.length = ps.length := fun vs H Q E q => by
  obtain ⟨a, C, ys, rfl, hl, _⟩ := q
  rw [List.length_cons, hl, h]
section
variable {K : PySem.W.Frag} {vs : List V} {H : Hp} {Q : VK} {E : XK} {f1 f2 f3 n0 n1 n2 n3 : Str}
theorem ini_rd1 (h : spIni K [f1] vs H Q E) : (tOst K f1 (tVar 0) (tVar 1)) { nx := fun _ H' => Q .non H', rt := Q } (L2.start [n0, n1] vs) H := by
  obtain ⟨a, C, ys, rfl, hl, T, no, ha, q⟩ := h
  match ys, hl with
  | [y], _ =>
    refine ⟨y, rfl, .ref a, rfl, a, C, rfl, T, no f1 (List.mem_cons_self ..), .inl ⟨ha, fun d nd ne => ?_⟩⟩
    exact q d _ nd ne upd_same (by rw [upd_ne ne, upd_same]; rfl) fun b h1 h2 => by rw [upd_ne h1, upd_ne h2]
end
structure MakOk (P : Program) (w : World) (K : PySem.W.Frag) (mg : Str → Option Value) (base : Heap) (x : Str) (flds : List Str) : Prop where
  ex : ∃ (C fI : Addr) (fd : FuncData) (ps : List Str), mg x = some (.ref C) ∧ OexC K C ∧ (∀ f ∈ flds, PySem.W.findIn K (.ref C) f = some none) ∧ PySem.W.findIn K (.ref C) "__init__" = some (some (.ref fI)) ∧ PySem.W.typeIn K (.ref fI) = some (.type "function") ∧
    FnOk P w K mg base CX0 1 fI fd ps (spIni K flds) ∧ Binds K fd ps []
theorem pmk_fld {X : Cx} {x : Str} {C fI : Addr} {fd : FuncData} {ps : List Str} {sp : Sp} {e : Expr} {es : List Expr} {ta : TA} {p pos : Pos} (T : OexC X.K C) (iC : PySem.W.findIn X.K (.ref C) "__init__" = some (some (.ref fI))) (tI : PySem.W.typeIn X.K (.ref fI) = some (.type "function"))
    (F : FnOk X.prog X.w X.K X.mg X.base CX0 1 fI fd ps sp) (hr : Room 2 X.A) (hb : Binds X.K fd ps []) (hg : Gl X x) (hm : X.mg x = some (.ref C)) (ha : PA X (e :: es) ta)
    (hdb : (x == ("__debug__" : Str)) = false := by decide) (he : starEach (e :: es) X.env = (false, eval e X.env) :: starEach es X.env := by rfl) (hpl : (backTo pos (starEach es X.env)).any (·.1) = false := by rfl) : L2N.PMk X (.Call (.Name x p) (e :: es) [] pos) (tMkO C sp [] ta) := by
  intro pins s σ H Q I h
  obtain ⟨nm, q, N, bs, bm, sn, sub, ab, col, dd, k0, k1, k2, k3, k5, hC, hbm⟩ := T.cls
  refine wpAny_Call_Name_kw (ld_glob I hg hm (PySem.W.callWith_K (h₀ := X.base) I.ok.mod.kin T.kC (thn (ha.run pos pins s σ H _ I h) fun us s1 hh => ?_) he hpl) hdb)
  obtain ⟨vs, H1, J, rv, hz, prom⟩ := hh
  refine ⟨J.kIn, ?_⟩
  obtain ⟨hp, g, dr, tk, os⟩ := s1
  have big : hp.objs.size ≤ hp.objs.size + 1 := Nat.le_add_right _ 1
  have free : H1 (hp.objs.size + 1) = none := J.hok.fresh big
  have pr := prom (hp.objs.size + 1) free
  rw [List.append_nil] at pr
  have old : ∀ b o, hp.get? b = some o → ((hp.push (PySem.W.kdv_tup us)).push (HandSPX.excO C hp.objs.size)).get? b = some o := fun b o z => Heap.get?_push_of_some _ (Heap.get?_push_of_some _ z)
  have self : ((hp.push (PySem.W.kdv_tup us)).push (HandSPX.excO C hp.objs.size)).get? (hp.objs.size + 1) = some (HandSPX.excO C hp.objs.size) := by heap_get
  have I2 : Inv X pins σ (upd H1 (hp.objs.size + 1) (exo (hp.objs.size + 1) C none)) ⟨(hp.push (PySem.W.kdv_tup us)).push (HandSPX.excO C hp.objs.size), g, dr, tk, os⟩ := J.laid (t' := tk) (a := hp.objs.size + 1) (o := exo (hp.objs.size + 1) C none) old big (exo_ok self)
  have rall : Vals (V.ref (hp.objs.size + 1) :: vs) (Value.ref (hp.objs.size + 1) :: us) := .cons rfl rv
  have hl : (Value.ref (hp.objs.size + 1) :: us ++ []).length = ps.length := by
    rw [List.append_nil, ← rall.length]
    exact F.len _ _ _ _ pr
  have few : us.length ≤ sizeLine := by
    have a1 := Paired.length rv
    have a2 : (1000 : Nat) ≤ sizeLine := by decide
    omega
  have bnd := hb _ (Value.ref (hp.objs.size + 1) :: us) I2.kIn hl
  rw [List.append_nil] at bnd
  refine wpAny_call (HandSPX.call_own PySem.F.excBase_ValueError (fun Y => HandSPX.refsVE_contains Y bm hbm) (J.kIn _ _ hC) (PySem.W.looks_findIn J.kIn iC) (fun self => PySem.W.bind_fn J.kIn self tI) few
    (codeAny_mono (F.run _ X.stack _ _ ⟨Value.ref (hp.objs.size + 1) :: us, []⟩ _ _ _ (fun _ _ _ => False) (hr.make C us []) (I2.env0.make C us []) bnd rall pr) fun r s2 hq => ?_))
  cases r with
  | error er => exact hq.elim
  | ok fl =>
    cases fl with
    | next => exact hq.elim
    | brk => exact hq.elim
    | cont => exact hq.elim
    | ret u =>
      obtain ⟨v, H2, o2, bare, un, hok, ru, ev, d, fs, ea, ed, dn, fin⟩ := hq
      subst ev
      obtain ⟨h2, g2, d2, t2, os'⟩ := s2
      obtain ⟨t0, G, J2, kG, ge, hoe, na⟩ := mk_end0 (d2 := d2) (t2 := t2) J big old un hok o2 bare ea ed dn
      refine ⟨ru, hp.objs.size + 1, _, _, ⟨G, g2, d2, t2, os'⟩, _, .ref C, some d, rfl, J2, kG, ge, hoe, ⟨rfl, rfl, fun w hw => ?_⟩, rfl, rfl, na, rfl, bare, raises_own T.exC T.tyC, fin⟩
      cases hw
      rfl
def raiseS (c : Str) (fl : List Str) (m : A) : S := fun e => O.of (m e) fun ts e1 => if ts.length = fl.length ∧ noOwns ts = true then .ex ⟨c, (fl.zip ts).reverse⟩ e1 else .no
theorem fldr_snoc {K : PySem.W.Frag} {B H : Hp} {f : Str} {t : T} {v : V} (h : VR K B H t v []) : ∀ {ps : List (Str × T)} {fs : List (Str × V)}, FldR K B H ps fs → FldR K B H (ps ++ [(f, t)]) (fs ++ [(f, v)])
  | [], fs, h0 => by
    have e : fs = [] := h0
    subst e
    exact ⟨v, [], rfl, h, rfl⟩
  | p :: ps, fs, h0 => by
    obtain ⟨u, r, rfl, h1, h2⟩ := h0
    exact ⟨u, _, rfl, h1, fldr_snoc h h2⟩
theorem fldr_of {K : PySem.W.Frag} {B H : Hp} : ∀ {fl : List Str} {ts : List T} {vs : List V} {f : List Addr}, VRs K B H ts vs f → noOwns ts = true → FldR K B H (fl.zip ts).reverse (fl.zip vs).reverse
  | [], _, _, _, _, _ => by simp [FldR]
  | g :: fl, [], vs, f, h, _ => by
    unfold VRs at h
    obtain ⟨rfl, _⟩ := h
    simp [FldR]
  | g :: fl, t :: ts, vs, f, h, no => by
    unfold VRs at h
    obtain ⟨v, r, f1, f2, rfl, rfl, h1, h2⟩ := h
    have no2 := Bool.and_eq_true_iff.mp (show (noOwn t && noOwns ts) = true from no)
    have e := h1.noOwn no2.1
    subst e
    rw [List.zip_cons_cons, List.zip_cons_cons, List.reverse_cons, List.reverse_cons]
    exact fldr_snoc h1 (fldr_of h2 no2.2)
theorem ms_raise {X : Cx} {W : WZ} {ks srcs ms : List Nat} {x : Str} {flds : List Str} {e : Expr} {es : List Expr} {m : A} {k : Nat} {p pos pos2 : Pos} (M : MakOk X.prog X.w X.K X.mg X.base x flds) (hc : X.calm = true) (tk : L2N.Takes X W.w) (hr : Room k X.A) (hk : 2 ≤ k) (hg : Gl X x) (ha : MA X W (e :: es) srcs ms m) (h1 : flds.length ≤ 1000)
    (hdb : (x == ("__debug__" : Str)) = false := by decide) (he : starEach (e :: es) X.env = (false, eval e X.env) :: starEach es X.env := by rfl) (hpl : (backTo pos (starEach es X.env)).any (·.1) = false := by rfl) :
    MS X W ks (.Raise (some (.Call (.Name x p) (e :: es) [] pos)) none pos2) [] ms (raiseS x flds m) := by
  obtain ⟨C, fI, fd, ps, hm, T, no, iC, tI, F, hb⟩ := M.ex
  obtain ⟨t, ht, hm2⟩ := ha
  refine ⟨_, L2N.ps_raise hc tk (pmk_fld T iC tI F (hr.mono hk) hb hg hm ht hdb he hpl), fun B H env σ fp D r p => ?_⟩
  refine hm2 B H env σ fp _ r ?_
  unfold raiseS at p
  cases z : m env with
  | no => rw [z] at p; exact p
  | ex y e1 => rw [z] at p; exact fun cls d B' H' fp' r' fr => p cls d σ B' H' fp' r' fr .refl
  | ok ts e1 =>
    rw [z] at p
    intro vs B1 H1 fp1 f r1 fr1 g1
    replace p : PostS X.K X.mg W ks σ B H fp [] ms (if ts.length = flds.length ∧ noOwns ts = true then .ex ⟨x, (flds.zip ts).reverse⟩ e1 else .no) D := p
    by_cases c : ts.length = flds.length ∧ noOwns ts = true
    · rw [if_pos c] at p
      have lv := g1.vr.length
      refine ⟨by omega, fun a na => ?_⟩
      refine ⟨a, C, vs ++ [], rfl, by rw [List.append_nil]; omega, T, no, upd_same, fun d H2 hd ne h1 h2 h3 => ⟨rfl, d, _, h1, h2, by rw [upd_ne ne] at hd; exact hd, ?_⟩⟩
      have hd : H1 d = none := by rw [upd_ne ne] at hd; exact hd
      have eH : upd (del H2 a) d (.xd (flds.zip (vs ++ [])).reverse) = upd H1 d (.xd (flds.zip vs).reverse) := by
        funext b
        rw [List.append_nil]
        by_cases hb : b = d
        · subst hb; rw [upd_same, upd_same]
        · rw [upd_ne hb, upd_ne hb]
          by_cases ha : b = a
          · subst ha; rw [del_same, na]
          · rw [del_ne ha, h3 b ha hb, upd_ne ha]
      rw [eH]
      have bd : B1 d = none := by
        cases q : B1 d with
        | none => rfl
        | some o => rw [r1.sub d o q] at hd; cases hd
      have sB : Same B1 (addB B1 (upd H1 d (.xd (flds.zip vs).reverse)) [d]) := addB_same fun c hc => by rw [List.mem_singleton.mp hc]; exact bd
      have al : Alo B1 H1 (addB B1 (upd H1 d (.xd (flds.zip vs).reverse)) [d]) (upd H1 d (.xd (flds.zip vs).reverse)) := ⟨sB, upd_sameH hd, fun c hc => by
          by_cases z : c ∈ [d]
          · rw [List.mem_singleton.mp z]; exact .inr hd
          · rw [addB_out z] at hc; exact .inl hc, addB_sub fun c o hc => upd_sameH hd c o (r1.sub c o hc)⟩
      refine p (.ref C) (some d) σ _ _ fp1 (r1.alo al) ?_ .refl ⟨hm, .inr ⟨d, _, rfl, by rw [addB_in (List.mem_singleton.mpr rfl), upd_same], ?_⟩⟩
      · have := fr1.trans (al.fr (ms := []) (fp := fp1))
        rw [List.append_nil] at this
        exact this
      · exact (fldr_of g1.vr c.2).mono sB
    · rw [if_neg c] at p; exact p.elim
end Mir
namespace Mir
open PySem PySem.Spec L2
def endX (i : Nat) : O → O
  | .nx e => .nx (e.set i none)
  | .bk e => .bk (e.set i none)
  | .ct e => .ct (e.set i none)
  | .rt t e => .rt t e
  | .ex _ _ => .no
  | .no => .no
def tryE (i : Nat) (tab : XTab) (y : Str) (b : S) (su : Exc → S) : S := fun e => match b e with
  | .ex x e1 => if hasX tab x.cls = true ∧ i < e1.length then (if subX x.cls y = true then endX i (su x (e1.set i none)) else .ex x e1) else .no
  | o => o
theorem Rel.caught {K : PySem.W.Frag} {B H : Hp} {e : Env} {σ : St} {fp : Fp} {i : Nat} {a : Addr} {cls : Value} {d : Option Addr} {x : Exc} (r : Rel none K B H e σ fp) (hi : i < e.length) (hx : ExB K B x d) : Rel (some ⟨i, a, cls, d, x⟩) K B H (e.set i none) (σ.set i (some (.ref a))) (fp0 fp i []) where
  xc := ⟨join_set_at hi, join_set_at (by rw [← r.len]; exact hi), hx⟩
  sub := r.sub
  len := by rw [List.length_set, List.length_set]; exact r.len
  at_ := fun j => by
    by_cases ej : j = i
    · subst ej
      rw [join_set_at hi, fp0_at]
      exact rfl
    · rw [join_set_ne ej, join_set_ne ej, fp0_ne ej]
      exact r.at_ j
  nd := fun j => by
    by_cases ej : j = i
    · subst ej; rw [fp0_at]; exact List.nodup_nil
    · rw [fp0_ne ej]; exact r.nd j
  dj := fun j k ne b hb hk => by
    by_cases ej : j = i
    · subst ej; rw [fp0_at] at hb; cases hb
    · rw [fp0_ne ej] at hb
      by_cases ek : k = i
      · subst ek; rw [fp0_at] at hk; cases hk
      · rw [fp0_ne ek] at hk; exact r.dj j k ne b hb hk
  off := fun j b hb => by
    by_cases ej : j = i
    · subst ej; rw [fp0_at] at hb; cases hb
    · rw [fp0_ne ej] at hb; exact r.off j b hb
theorem Fr.drop {B H : Hp} {fp : Fp} {i : Nat} : Fr [i] B H fp B H (fp0 fp i []) where
  b := Same.refl _
  keep := fun _ _ h _ => h
  grow := fun _ h => h
  fresh := fun _ h => .inl h
  fps := fun j hj => fp0_ne fun z => hj (by rw [z]; exact List.mem_cons_self ..)
  fpm := fun j c hc => by
    by_cases ej : j = i
    · subst ej; rw [fp0_at] at hc; cases hc
    · rw [fp0_ne ej] at hc; exact .inl hc
theorem Rel.plain {z : Zx} {K : PySem.W.Frag} {B H : Hp} {e : Env} {σ : St} {fp : Fp} (r : Rel (some z) K B H e σ fp) : Rel none K B H e σ fp := ⟨trivial, r.sub, r.len, r.at_, r.nd, r.dj, r.off⟩
theorem Rel.gone {z : Zx} {K : PySem.W.Frag} {B H : Hp} {e : Env} {σ : St} {fp : Fp} (r : Rel (some z) K B H e σ fp) : Rel none K B H (e.set z.i none) (σ.set z.i none) fp where
  xc := trivial
  sub := r.sub
  len := by rw [List.length_set, List.length_set]; exact r.len
  at_ := fun j => by
    by_cases ej : j = z.i
    · subst ej
      have q := r.at_ z.i
      have n : e[z.i]?.join = none := r.xc.1
      rw [n] at q
      have e0 : (e.set z.i none)[z.i]?.join = none := by
        by_cases hl : z.i < e.length
        · exact join_set_at hl
        · rw [List.set_eq_of_length_le (by omega)]; exact n
      rw [e0]
      exact q
    · rw [join_set_ne ej, join_set_ne ej]
      exact r.at_ j
  nd := r.nd
  dj := r.dj
  off := r.off
theorem ms_tryAs {X : Cx} {W : WZ} {x n : Str} {i : Nat} {body suite : List Stmt} {b₀ : Stmt} {np pos pos' : Pos} {ks rs1 rs2 m1 m2 : List Nat} {mb : S} {su : Exc → S} {tab : XTab} (fl : List Str)
    (hs : X.stack = X.env :: X.outer) (hf : X.env.frame = some X.env.locals) (hN : X.N.Nodup) (hi : X.N[i]? = some n) (hln : X.env.kindOf n = some .local) (hg : Gl X x) (F : XF X.K X.mg tab) (hm : (x, fl) ∈ tab) (tk : L2N.Takes X W.w) (wz : W.z = none) (nk : i ∉ ks)
    (hb : ∀ (w2 : WX) (pn : List (Addr × Obj)) (xe : Value → Shared → Prop), L2N.Takes (X.tr pn xe) w2 → PassesOwn (model X.prog X.w) X.A X.env xe → MB (X.tr pn xe) ⟨w2, none⟩ ks body rs1 m1 mb)
    (hsu : ∀ (a : Addr) (oe : Obj) (cls : Value) (d : Option Addr) (pn : List (Addr × Obj)) (y : Exc), PinZ (X.suite a ((a, oe) :: pn)) ⟨i, a, cls, d, y⟩ → MB (X.suite a ((a, oe) :: pn)) ⟨fun _ _ _ _ => False, some ⟨i, a, cls, d, y⟩⟩ ks (b₀ :: suite) rs2 m2 (su y))
    (hdb : (x == ("__debug__" : Str)) = false := by decide) :
    MS X W ks (.Try body [.ExceptHandler (some (.Name x np)) (some n) (b₀ :: suite) pos'] [] [] pos) (rs1 ++ rs2) (m1 ++ (i :: m2)) (tryE i tab x mb su) := by
  obtain ⟨w, zz⟩ := W
  have wz : zz = none := wz
  subst wz
  obtain ⟨D, mD, _⟩ := F.cls _ hm
  refine ⟨_, L2N.ps_try_as (tb := fun W2 => canB X.K X.mg ⟨W2, none⟩ ks rs1 m1 mb) (ts := fun a cls d => fun D2 σ H => ∃ y : Exc, X.mg y.cls = some cls ∧ canB X.K X.mg ⟨fun _ _ _ _ => False, some ⟨i, a, cls, d, y⟩⟩ ks rs2 m2 (su y) D2 σ H) hs hf hN hi hln ⟨hg, hdb, .inl mD⟩ tk
    (fun W2 pn xe t2 po => (hb W2 pn xe t2 po).can) (fun a oe cls d pn hz hv => ⟨fun pins s σ H D2 I h => ?_⟩), fun B H env σ fp D2 r p => ?_⟩
  · obtain ⟨y, hy, h⟩ := h
    obtain ⟨vs, hv⟩ := hv
    exact (hsu a oe cls d pn y ⟨⟨oe, vs, List.mem_cons_self .., hz.zc, hv, hz.2.2 vs hv⟩, rfl, hy⟩).can.run pins s σ H D2 I h
  · refine ⟨B, env, fp, r, ?_⟩
    unfold tryE at p
    cases z : mb env with
    | no => rw [z] at p; exact p
    | nx e => rw [z] at p; exact fun σ' B' H' fp' r' fr => p σ' B' H' fp' r' (fr.weak fun j hj => List.mem_append_left _ hj)
    | bk e => rw [z] at p; exact fun σ' B' H' fp' r' fr => p σ' B' H' fp' r' (fr.weak fun j hj => List.mem_append_left _ hj)
    | ct e => rw [z] at p; exact fun σ' B' H' fp' r' fr => p σ' B' H' fp' r' (fr.weak fun j hj => List.mem_append_left _ hj)
    | rt t e =>
      rw [z] at p
      exact fun v σ' B' H' fp' f r' fr kk g => p v σ' B' H' fp' f r' (fr.weak fun j hj => List.mem_append_left _ hj) kk ⟨g.vr, g.nd, g.off, new_weak g.new fun j hj => List.mem_append_left _ hj⟩
    | ex y e1 =>
      rw [z] at p
      replace p : PostS X.K X.mg ⟨w, none⟩ ks σ B H fp (rs1 ++ rs2) (m1 ++ (i :: m2)) (if hasX tab y.cls = true ∧ i < e1.length then (if subX y.cls x = true then endX i (su y (e1.set i none)) else .ex y e1) else .no) D2 := p
      intro cls d σ1 B1 H1 fp1 r1 fr1 kk1 ex1
      by_cases c : hasX tab y.cls = true ∧ i < e1.length
      · rw [if_pos c] at p
        obtain ⟨q, hq, e2⟩ := hasX_mem c.1
        obtain ⟨C, m1', _⟩ := F.cls q hq
        have eC : cls = .ref C := by
          have := ex1.cl
          rw [← e2, m1'] at this
          exact (Option.some.inj this).symm
        have exm := (F.isi q hq _ hm C D m1' mD).2
        rw [e2] at exm
        refine ⟨subX y.cls x, by rw [eC]; exact exm, fun hyes a na => ?_, fun hno => ?_⟩
        · rw [if_pos hyes] at p
          have rc := Rel.caught (a := a) (cls := cls) (d := d) r1 c.2 ex1.fl
          refine ⟨y, ex1.cl, B1, e1.set i none, fp0 fp1 i [], rc, ?_⟩
          have fr2 : Fr (m1 ++ [i]) B H fp B1 H1 (fp0 fp1 i []) := fr1.trans Fr.drop
          have kk2 : Keep ks σ (σ1.set i (some (.ref a))) := kk1.trans fun j hj => join_set_ne fun e => nk (by rw [← e]; exact hj)
          have sub : ∀ j, j ∈ (m1 ++ [i]) ++ m2 → j ∈ m1 ++ (i :: m2) := fun j hj => by
            simp only [List.mem_append, List.mem_cons, List.mem_singleton] at hj ⊢
            grind
          cases z2 : su y (e1.set i none) with
          | no => rw [z2] at p; exact p
          | ex u e3 => rw [z2] at p; exact p.elim
          | nx e3 =>
            rw [z2] at p
            exact fun σ3 B3 H3 fp3 r3 fr3 kk3 => p (σ3.set i none) B3 H3 fp3 r3.gone ((fr2.trans fr3).weak sub) ((kk2.trans kk3).trans fun j hj => join_set_ne fun e => nk (by rw [← e]; exact hj))
          | bk e3 =>
            rw [z2] at p
            exact fun σ3 B3 H3 fp3 r3 fr3 kk3 => p (σ3.set i none) B3 H3 fp3 r3.gone ((fr2.trans fr3).weak sub) ((kk2.trans kk3).trans fun j hj => join_set_ne fun e => nk (by rw [← e]; exact hj))
          | ct e3 =>
            rw [z2] at p
            exact fun σ3 B3 H3 fp3 r3 fr3 kk3 => p (σ3.set i none) B3 H3 fp3 r3.gone ((fr2.trans fr3).weak sub) ((kk2.trans kk3).trans fun j hj => join_set_ne fun e => nk (by rw [← e]; exact hj))
          | rt t e3 =>
            rw [z2] at p
            exact fun v σ3 B3 H3 fp3 f r3 fr3 kk3 g => p v σ3 B3 H3 fp3 f r3.plain ((fr2.trans fr3).weak sub) (kk2.trans kk3) ⟨g.vr, g.nd, g.off, fun b hb => by
              rcases g.new b hb with ⟨n1, n2⟩ | ⟨j, hj, n2⟩
              · exact .inl ⟨fr2.grow b n1, n2⟩
              · exact .inr ⟨j, List.mem_append_right _ hj, n2⟩⟩
        · rw [if_neg (by rw [hno]; exact Bool.false_ne_true)] at p
          exact p cls d σ1 B1 H1 fp1 r1 (fr1.weak fun j hj => List.mem_append_left _ hj) kk1 ex1
      · rw [if_neg c] at p; exact p.elim
section
variable {P : Program} {w : World} {K : PySem.W.Frag} {mg : Str → Option Value} {base : Heap} {k : Nat} {f : Addr} {x qual : Str} {params : Arguments} {body : List Stmt} {scope : Scope} {dvs : List V} {kws : List (Str × V)} {fd : FuncData} {N ps : List Str} {os : List Nat} {b : Exc → S}
theorem fnx_of (F : FunD K x qual params body scope dvs kws f fd) (S : FnScope N ps scope) (ho : ∀ i ∈ os, i < ps.length) (hl : ps.length ≤ N.length)
    (hbody : ∀ (cdv : Value) (A : Around) (outer : List PySem.Env) (s : Shared) (H : Hp) (p : Addr × Obj), L2H.RoomH k (A.deeper (PyProof.Rows.envOfC qual scope s.heap.objs.size f cdv)) → (A.deeper (PyProof.Rows.envOfC qual scope s.heap.objs.size f cdv)).guards = some [] → ∀ (cls : Value) (d : Option Addr) (y : Exc),
      PinZ (L2H.cxH (L2N.CX P w) P w K mg base N qual scope f cdv A outer s H (fun _ _ _ => False) p) ⟨0, p.1, cls, d, y⟩ →
      ∃ rs ms, MB (L2H.cxH (L2N.CX P w) P w K mg base N qual scope f cdv A outer s H (fun _ _ _ => False) p) ⟨fun _ _ _ _ => False, some ⟨0, p.1, cls, d, y⟩⟩ os body rs ms (b y) ∧ ∀ i ∈ rs, i ∉ os) : FnX P w K mg base (k + 1) f fd ps os (fnX N.length os b) := by
  obtain ⟨oc, od, dV, kV, doc, pm, an, cdv, ct, osl, rfl, lk, hcd, _, _⟩ := F.ex
  refine ⟨fun A outer s H args us vs Q p hr hg hot hpin e0 hb rv hsp => ?_⟩
  obtain ⟨cls, d, y, B, ts, fp, hz, hmg, hn, rel, h0, post⟩ := hsp
  have hlen : vs.length = ps.length := hn
  have KX : K.In s.heap := e0.mod.kin.keeps fun b o e => (e0.bs b o e).1
  have lim : s.heap.NoLimit := e0.mod.nolimit.keeps fun b o e => (e0.bs b o e).1
  have kinds : ∀ y ∈ ps.zip us, scope.names.lookup y.1 = some .local ∨ (scope.names.lookup y.1 = some .cell ∧ ((cellsFrom (s.heap.objs.size + 1) scope.names []).lookup y.1).isSome = true) := fun y hy => by
    obtain ⟨n, v⟩ := y
    rcases S.par n (List.of_mem_zip hy).1 with q | q
    · exact Or.inl q
    · exact Or.inr ⟨q, PySem.W.cellsFrom_some _ _ _ (Or.inl q)⟩
  refine codeAny_call_function hr.depth (KX _ _ lk) rfl S.co S.gen rfl (PySem.W.codeRec_of KX hcd) (hb _ _ _ _ ?_)
  refine wpAny_newFunctionEnv_cells S.kind kinds fun env he s1 ic => ?_
  subst he
  refine ⟨lim.keeps ic.toInCall.keep, codeAny_func ?_⟩
  have pz : PinZ (L2H.cxH (L2N.CX P w) P w K mg base N qual scope f cdv A outer s H (fun _ _ _ => False) p) ⟨0, p.1, cls, d, y⟩ := by
    obtain ⟨hh, ws, e1, e2⟩ := hot
    exact ⟨⟨p.2, ws, List.mem_cons_self .., hz, e1, e2⟩, hh, hmg⟩
  obtain ⟨rs, ms, ⟨t, ht, hm⟩, hrs⟩ := hbody cdv A outer s H p (hr.deeper _) hg cls d y pz
  have I : Inv (L2H.cxH (L2N.CX P w) P w K mg base N qual scope f cdv A outer s H (fun _ _ _ => False) p) [] (L2.start N vs) H s1 := L2H.inv_startH S hpin e0 hlen rv ic
  have rel0 := rel.enter (N := N) (by rw [hlen]; exact hl)
  rw [List.length_cons, List.length_map] at rel0
  have ho' : ∀ i ∈ os, i < vs.length := fun i hi => by rw [hlen]; exact ho i hi
  have fin : ∀ {s' : Shared} {σ' : St} {H' : Hp} {v : V} {u : Value}, Inv (L2H.cxH (L2N.CX P w) P w K mg base N qual scope f cdv A outer s H (fun _ _ _ => False) p) [] σ' H' s' → RelV v u → Q v H' → CE outer P w H s Q u s' :=
    fun {s' σ' H' v u} J rv q => ⟨v, H', J.os, J.bare, J.base, J.hok, rv, q⟩
  refine wpAny_mono (ht.run [] s1 (L2.start N vs) H { nx := fun _ H' => Q .non H', rt := Q } I (hm B H _ _ fp _ rel0 ?_)) (fun fl s' hs => ?_) fun e s' hs => hs
  · unfold fnX outM at post
    show PostS K mg ⟨fun _ _ _ _ => False, some ⟨0, p.1, cls, d, y⟩⟩ os (L2.start N vs) B H fp rs ms (b y (none :: ts.map some ++ List.replicate (N.length - (ts.length + 1)) none)) _
    cases z : b y (none :: ts.map some ++ List.replicate (N.length - (ts.length + 1)) none) with
    | nx e1 =>
      rw [z] at post
      replace post : PostF (some ⟨0, p.1, cls, d, y⟩) K mg os B H fp (none :: ts.map some) vs (.of (outsO e1 os) (.ok .non)) Q (fun _ _ _ => False) := post
      cases z2 : outsO e1 os with
      | none => rw [z2] at post; exact post.elim
      | some outs =>
        rw [z2] at post
        intro σ' B' H' fp' r' fr kk
        obtain ⟨r2, f2⟩ := rel.leave h0 ho' r' fr kk z2
        exact post .non B' H' _ [] r2 f2 (.pure vr_non)
    | rt t e1 =>
      rw [z] at post
      replace post : PostF (some ⟨0, p.1, cls, d, y⟩) K mg os B H fp (none :: ts.map some) vs (.of (outsO e1 os) (.ok t)) Q (fun _ _ _ => False) := post
      cases z2 : outsO e1 os with
      | none => rw [z2] at post; exact post.elim
      | some outs =>
        rw [z2] at post
        intro v σ' B' H' fp' g r' fr kk got
        obtain ⟨r2, f2⟩ := rel.leave h0 ho' r' fr kk z2
        exact post v B' H' _ g r2 f2 (Got.leave h0 r' fr hrs got)
    | ex u e1 =>
      rw [z] at post
      replace post : PostF (some ⟨0, p.1, cls, d, y⟩) K mg os B H fp (none :: ts.map some) vs (.of (outsO e1 os) (.ex u)) Q (fun _ _ _ => False) := post
      cases z2 : outsO e1 os with
      | none => rw [z2] at post; exact post.elim
      | some outs =>
        rw [z2] at post
        intro cls' d' σ' B' H' fp' r' fr kk ex
        obtain ⟨r2, f2⟩ := rel.leave h0 ho' r' fr kk z2
        exact post cls' d' B' H' _ r2 f2 ex
    | bk e1 => rw [z] at post; exact post.elim
    | ct e1 => rw [z] at post; exact post.elim
    | no => rw [z] at post; exact post.elim
  · cases fl with
    | ret u =>
      obtain ⟨v, σ', H', J, rv, q⟩ := hs
      exact fin J rv q
    | next =>
      obtain ⟨σ', H', J, q⟩ := hs
      exact fin (v := V.non) (u := Value.none) J rfl q
    | brk =>
      obtain ⟨_, _, _, q⟩ := hs
      exact q.elim
    | cont =>
      obtain ⟨_, _, _, q⟩ := hs
      exact q.elim
end
theorem putO_cons {t0 : Option T} {l : Env} : ∀ {os : List Nat} {outs : List T}, putO (t0 :: l) (os.map (· + 1)) outs = t0 :: putO l os outs
  | [], _ => by simp [putO]
  | _ :: _, [] => by simp [putO]
  | i :: os, t :: outs => by
    show (putO (t0 :: l) (os.map (· + 1)) outs).set (i + 1) (some t) = _
    rw [putO_cons]
    rfl
theorem promX_of {K : PySem.W.Frag} {mg : Str → Option Value} {n : Nat} {os : List Nat} {m : Exc → F} {p : Addr × Obj} {vs : List V} {H B1 : Hp} {Q : VK} {cls : Value} {d : Option Addr} {y : Exc} (hz : Zc cls d p.2) (hm : mg y.cls = some cls) (eb : ExB K B1 y d)
    (h : PromB B1 K mg n os (m y) vs H Q (fun _ _ _ => False)) : PromX K mg (n + 1) (os.map (· + 1)) m p (.ref p.1 :: vs) H Q := by
  obtain ⟨B, ts, fp, sb, hn, r, h0, post⟩ := h
  let fq : Fp := fun i => match i with
    | 0 => []
    | j + 1 => fp j
  have mem0 : ∀ {i : Nat}, i ∈ os.map (· + 1) → ∃ j ∈ os, i = j + 1 := fun {i} hi => by
    obtain ⟨j, hj, e⟩ := List.mem_map.mp hi
    exact ⟨j, hj, e.symm⟩
  have mem1 : ∀ {j : Nat}, j + 1 ∈ os.map (· + 1) → j ∈ os := fun {j} hi => by
    obtain ⟨k, hk, e⟩ := mem0 hi
    have : j = k := by omega
    rw [this]; exact hk
  refine ⟨cls, d, y, B, ts, fq, hz, hm, by rw [List.length_cons, hn], ?_, fun i hi => ?_, ?_⟩
  · refine ⟨⟨rfl, rfl, eb.mono sb⟩, r.sub, by have := r.len; simp only [List.length_map, List.length_cons] at this ⊢; omega, fun i => ?_, fun i => ?_, fun i j ne a ha hj => ?_, fun i a ha => ?_⟩
    · cases i with
      | zero => exact rfl
      | succ i => exact r.at_ i
    · cases i with
      | zero => exact List.nodup_nil
      | succ i => exact r.nd i
    · cases i with
      | zero => cases ha
      | succ i =>
        cases j with
        | zero => cases hj
        | succ j => exact r.dj i j (fun e => ne (by rw [e])) a ha hj
    · cases i with
      | zero => cases ha
      | succ i => exact r.off i a ha
  · cases i with
    | zero => exact rfl
    | succ i => exact h0 i fun z => hi (List.mem_map.mpr ⟨i, z, rfl⟩)
  · have rel : ∀ {B' H' : Hp} {fp' : Fp} {outs : List T}, Rel (some ⟨0, p.1, cls, d, y⟩) K B' H' (putO (none :: ts.map some) (os.map (· + 1)) outs) ((V.ref p.1 :: vs).map some) fp' → Rel none K B' H' (putO (ts.map some) os outs) (vs.map some) (fun i => fp' (i + 1)) := fun {B' H' fp' outs} q => by
      rw [putO_cons] at q
      refine ⟨trivial, q.sub, ?_, fun i => q.at_ (i + 1), fun i => q.nd (i + 1), fun i j ne => q.dj (i + 1) (j + 1) (fun e => ne (by omega)), fun i => q.off (i + 1)⟩
      have := q.len
      simp only [List.length_cons, List.length_map] at this ⊢
      omega
    have fr_ : ∀ {B' H' : Hp} {fp' : Fp}, Fr (os.map (· + 1)) B H fq B' H' fp' → Fr os B H fp B' H' (fun i => fp' (i + 1)) := fun {B' H' fp'} q => by
      refine ⟨q.b, fun a o h n => q.keep a o h fun i hi => ?_, q.grow, fun a h => ?_, fun j hj => q.fps (j + 1) fun z => hj (mem1 z), fun j a ha => q.fpm (j + 1) a ha⟩
      · obtain ⟨j, hj, e⟩ := mem0 hi
        subst e
        exact n j hj
      · rcases q.fresh a h with w | w | ⟨i, hi, w⟩
        · exact .inl w
        · exact .inr (.inl w)
        · obtain ⟨j, hj, e⟩ := mem0 hi
          subst e
          exact .inr (.inr ⟨j, hj, w⟩)
    cases z : m y ts with
    | no => rw [z] at post; exact post
    | ex u outs => rw [z] at post; exact fun cls' d' B' H' fp' r' fr' ex => post cls' d' B' H' _ (rel r') (fr_ fr') ex
    | ok t outs =>
      rw [z] at post
      exact fun v B' H' fp' f r' fr' g => post v B' H' _ f (rel r') (fr_ fr') ⟨g.vr, g.nd, g.off, fun a ha => by
        rcases g.new a ha with ⟨n1, n2⟩ | ⟨i, hi, _⟩
        · exact .inl ⟨n1, fun j => n2 (j + 1)⟩
        · cases hi⟩
structure CalX (P : Program) (w : World) (K : PySem.W.Frag) (mg : Str → Option Value) (base : Heap) (st : Stmt) (k : Nat) (x : Str) (ps : List Str) (os : List Nat) (m : Exc → F) : Prop where
  ex : ∃ f fd, FnX P w K mg base k f fd ps os m ∧ mg x = some (.ref f) ∧ ∃ n : Str, FunD K n n (defArgs st) (defBody st) (defScope st) [] [] f fd
theorem me_callX {X : Cx} {W : WZ} {z : Zx} {st : Stmt} {k j : Nat} {x : Str} {ps : List Str} {os : List Nat} {m : Exc → F} {as : List AE} {srcs ms : List Nat} {p pos : Pos} {e : Expr} {es : List Expr} (hz : W.z = some z) (hw : W.w = fun _ _ _ _ => False) (P : PinZ X z) (c : CalX X.prog X.w X.K X.mg X.base st j x ps os m)
    (hb : ∀ (nm : Str) (kV doc pm : Value) (an : Option Addr) (cdv ct : Value) (us : List Value), us.length = ps.length → bindArgs (PySem.W.fnOf nm nm (defArgs st) (defBody st) (defScope st) .none kV doc pm an cdv ct) ⟨us, []⟩ = pure (ps.zip us))
    (hr : L2H.RoomH k X.A) (hj : j ≤ k) (hgd : X.A.guards = some []) (hg : Gl X x) (pv : PE X e (tVar z.i)) (ha : MX X W es srcs ms as) (ho : os = ((links 0 as).map (·.1)).map (· + 1)) (hn : as.length + 1 = ps.length) (dj : ∀ i ∈ srcs, i ∉ (links 0 as).map (·.2)) (nd : ((links 0 as).map (·.2)).Nodup)
    (hdb : (x == ("__debug__" : Str)) = false := by decide) (he : starEach (e :: es) X.env = (false, eval e X.env) :: starEach es X.env := by rfl) (hpl : (backTo pos (starEach es X.env)).any (·.1) = false := by rfl) :
    ME X W (.Call (.Name x p) (e :: es) [] pos) [] (ms ++ (links 0 as).map (·.2)) (callE (m z.x) [] as) := by
  obtain ⟨f, fd, F, hm, nm, D⟩ := c.ex
  obtain ⟨t, ht, hm2⟩ := ha
  obtain ⟨oe, ws, hp, hzc, hdt, hct⟩ := P.ex
  have hbn : Binds X.K fd ps [] := D.bindsN (hb nm)
  refine ⟨fun σ H Q => tCons (tVar z.i) t σ H fun vs H1 => vs.length = ps.length ∧ PromX X.K X.mg ps.length os m (z.a, oe) vs H1 Q, ⟨fun pins s σ H Q I h => ?_⟩, fun B H env σ fp Q r pp => ?_⟩
  · refine wpAny_Call_Name_kw (ld_glob I hg hm (PySem.W.callWith_K (h₀ := X.base) I.ok.mod.kin D.kp (thn ((pa_cons pv ht he).run pos pins s σ H _ I h) fun us s1 hh => ?_) he hpl) hdb)
    obtain ⟨vs, H1, I1, rv, hl, q⟩ := hh
    refine ⟨I1.kIn, ?_⟩
    have bnd := hbn s1 us I1.kIn (by rw [List.append_nil, ← hl]; exact rv.length.symm)
    rw [List.append_nil] at bnd
    have Q1 := I1.pin (z.a, oe) (List.mem_append_left _ hp)
    have hpin : L2H.PinOk X.stack H1 s1 (z.a, oe) := ⟨Q1.1, Q1.2.1, fun hmm => (List.mem_cons.mp (I1.stkSub _ hmm)).elim Q1.2.2.1 Q1.2.2.2.1, Q1.2.2.2.2⟩
    refine wpAny_call (codeAny_mono (F.run X.A X.stack s1 H1 ⟨us, []⟩ us vs Q (z.a, oe) ⟨by have := hr.dp; omega, by have := hr.un; omega⟩ hgd ⟨P.hd, ws, hdt, hct⟩ hpin I1.env0 bnd rv q) fun rr s2 hq => ?_)
    cases rr with
    | error er =>
      obtain ⟨_, _, _, _, _, _, _, _, _, _, _, _, zz⟩ := hq
      exact zz.elim
    | ok fl2 => cases fl2 with
      | ret u => exact I1.after hq
      | next => exact hq.elim
      | brk => exact hq.elim
      | cont => exact hq.elim
  · have xc := r.xc
    rw [hz] at xc
    obtain ⟨_, hs, hbx⟩ := xc
    refine ⟨_, slot_some hs, ?_⟩
    refine hm2 B H env σ fp _ r ?_
    unfold callE at pp
    cases zz : evalAs as env with
    | no => rw [zz] at pp; exact pp
    | ex y e1 => rw [zz] at pp; exact fun cls d B' H' fp' r' fr => pp cls d B' H' fp' r' (fr.weak fun i hi => List.mem_append_left _ hi)
    | ok xs e1 =>
      rw [zz] at pp
      intro vs B1 H1 fp1 g r1 fr1 gx
      have lx : vs.length = as.length := gx.vr.len
      have xc1 := r1.xc
      rw [hz] at xc1
      refine ⟨by rw [List.length_cons, lx]; exact hn, ?_⟩
      have pb := call_reads (m := m z.x) (dts := []) (dvs := []) (n := vs.length) r1 fr1 gx (fun B H => by unfold VRs; exact ⟨rfl, rfl⟩) (by rw [List.append_nil]) dj nd pp
      rw [List.append_nil] at pb
      subst ho
      rw [← hn, ← lx]
      refine promX_of hzc P.mg xc1.2.2 ?_
      obtain ⟨B2, ts, fq, a1, a2, a3, a4, a5⟩ := pb
      rw [hw] at a5
      exact ⟨B2, ts, fq, a1, a2, a3, a4, a5⟩
end Mir
namespace Mir
open PySem PySem.Spec L2
section
variable {α : Type} (le : α → α → Bool)
variable {le}
end
section
variable {X : Cx}
end
def popT (ts : List T) (j : T) : Option (T × List T) := match j with
  | .int n => if 0 ≤ n ∧ n.natAbs < 9223372036854775808 then ts[n.toNat]?.map fun t => (t, ts.eraseIdx n.toNat) else none
  | _ => none
def popAtE (i : Nat) (k : E) : E := fun e => match ownAt e i with
  | some _ => (k e).bind fun j e1 => match ownAt e1 i with
    | some ts => (match popT ts j with
      | some p => if noOwn p.1 = true then .ok p.1 (e1.set i (some (.own p.2))) else .no
      | none => .no)
    | none => .no
  | none => .no
theorem VRs.erase {K : PySem.W.Frag} {B H : Hp} : ∀ {ts : List T} {vs : List V} {f : List Addr} {k : Nat}, VRs K B H ts vs f → ∃ g, VRs K B H (ts.eraseIdx k) (vs.eraseIdx k) g ∧ g.Sublist f
  | [], vs, f, k, h => by
    unfold VRs at h
    obtain ⟨rfl, rfl⟩ := h
    exact ⟨[], by simp [VRs], .refl _⟩
  | t :: ts, vs, f, 0, h => by
    unfold VRs at h
    obtain ⟨v, r, f1, f2, rfl, rfl, _, h2⟩ := h
    exact ⟨f2, by simpa using h2, List.sublist_append_right ..⟩
  | t :: ts, vs, f, k + 1, h => by
    unfold VRs at h
    obtain ⟨v, r, f1, f2, rfl, rfl, h1, h2⟩ := h
    obtain ⟨g, h3, h4⟩ := VRs.erase (k := k) h2
    refine ⟨f1 ++ g, ?_, h4.append_left f1⟩
    rw [List.eraseIdx_cons_succ, List.eraseIdx_cons_succ]
    unfold VRs
    exact ⟨v, _, f1, g, rfl, rfl, h1, h3⟩
theorem popT_ok {ts us : List T} {j t : T} (h : popT ts j = some (t, us)) : ∃ n, j = .int n ∧ 0 ≤ n ∧ n < 2 ^ 63 ∧ ts[n.toNat]? = some t ∧ us = ts.eraseIdx n.toNat := by
  cases j with
  | int n =>
    unfold popT at h
    dsimp only at h
    by_cases c : 0 ≤ n ∧ n.natAbs < 9223372036854775808
    · rw [if_pos c] at h
      cases z : ts[n.toNat]? with
      | none => rw [z] at h; cases h
      | some u =>
        rw [z] at h
        cases h
        exact ⟨n, rfl, c.1, by omega, z, rfl⟩
    · rw [if_neg c] at h; cases h
  | _ => cases h
theorem me_popAt {X : Cx} {W : WZ} {a c : Expr} {i : Nat} {s1 m1 : List Nat} {k : E} (pe : ∀ {ta : TE}, PE X a ta → PE X c (tBM X.K "list" rPopAt (tVar i) (tCons ta tNil))) (hk : ME X W a s1 m1 k) : ME X W c [] (m1 ++ [i]) (popAtE i k) := by
  obtain ⟨t1, ht1, hm1⟩ := hk
  refine ⟨_, pe ht1, fun B H env σ fp Q r p => ?_⟩
  unfold popAtE at p
  cases z0 : ownAt env i with
  | none => rw [z0] at p; exact False.elim p
  | some us0 =>
    rw [z0] at p
    dsimp only at p
    obtain ⟨a, vs, g, ev, hf, ha, rs, _, _⟩ := own_slot r z0
    refine ⟨.ref a, ev, tyV_list (.of ha), ?_⟩
    refine hm1 B H env σ fp _ r ?_
    cases z : k env with
    | no => rw [z] at p; exact p
    | ex x e1 => rw [z] at p; exact fun cls d B' H' fp' r' fr => p cls d B' H' fp' r' (fr.weak fun i hi => List.mem_append_left _ hi)
    | ok j e1 =>
      rw [z] at p
      intro w B1 H1 fp1 f1 r1 fr1 g1
      replace p : PostE X.K X.mg W σ B H fp [] (m1 ++ [i]) (match ownAt e1 i with
        | some ts => (match popT ts j with
          | some p => if noOwn p.1 = true then .ok p.1 (e1.set i (some (.own p.2))) else .no
          | none => .no)
        | none => .no) Q := p
      cases z3 : ownAt e1 i with
      | none => rw [z3] at p; exact False.elim p
      | some ts =>
        rw [z3] at p
        dsimp only at p
        cases z4 : popT ts j with
        | none => rw [z4] at p; exact False.elim p
        | some q =>
          obtain ⟨t, us⟩ := q
          rw [z4] at p
          dsimp only at p
          by_cases no : noOwn t = true
          · rw [if_pos no] at p
            obtain ⟨n, rfl, c1, c2, c3, rfl⟩ := popT_ok z4
            have hw := g1.vr
            unfold VR at hw
            obtain ⟨rfl, _⟩ := hw
            obtain ⟨b, ws, gk, ev1, hf1, hb, rs1, et1, _⟩ := own_slot r1 z3
            have eab : b = a := by rw [ev] at ev1; injection ev1 with ev1; injection ev1 with ev1; injection ev1 with ev1; exact ev1.symm
            subst eab
            obtain ⟨y, k1, e2, vr, _⟩ := rs1.get c3
            have hk := vr.noOwn no
            subst hk
            obtain ⟨g', q1, sl⟩ := VRs.erase (k := n.toNat) rs1
            have nk := r1.nd i
            rw [hf1] at nk
            obtain ⟨r2, k2⟩ := r1.relist (H0 := H) (us := ts.eraseIdx n.toNat) (ws := ws.eraseIdx n.toNat) (g' := g') et1 ev1 hf1 (fun c h => fr1.grow c h) q1 (sl.nodup (List.nodup_cons.mp nk).2) (fun c hc => r1.off i c (by rw [hf1]; exact List.mem_cons_of_mem _ (sl.subset hc))) fun c hc => .inl (sl.subset hc)
            have hlt : n.toNat < ws.length := by rw [rs1.length]; exact (List.getElem?_eq_some_iff.mp c3).1
            refine ⟨b, ws, n, n.toNat, y, rfl, rfl, hb, by omega, c2, ?_, e2, ?_⟩
            · unfold seqIndex?
              simp
              omega
            · exact p y B1 _ _ [] r2 (k2 m1 B fp fr1) (.pure (vr.mono (Same.refl _) fun _ z => nomatch z))
          · rw [if_neg no] at p; exact False.elim p
def augI (i : Nat) (g : Int → Int → Int) (m : E) : S := fun e => match e[i]?.join with
  | some (.int x) => O.of (m e) fun y e1 => (match y with
    | .int y => .nx (e1.set i (some (.int (g x y))))
    | _ => .no)
  | _ => .no
end Mir
namespace Mir
open PySem PySem.Spec L2
abbrev AlY : Type := He.AlD × Bool
def obsYG (n : Nat) (fa : List He.Fa) (fn : List He.DefD) (ex : PySem.W.Frag → Bool) (g : Addr → Option Obj) : AlY := (He.obsD fa fn (He.frG g (He.asD g n)), ex (He.frG g (He.asD g n)))
def hookY (n : Nat) (fa : List He.Fa) (fn : List He.DefD) (ex : PySem.W.Frag → Bool) : PySem.W.Hook where
  α := AlY
  obs := fun s => obsYG n fa fn ex s.heap.get?
  val := fun _ => (He.valD fn, true)
  says := fun _ h => ∃ K : PySem.W.Frag, K.In h ∧ He.SaysD fa fn K ∧ ex K = true
  of := fun _ _ e => ⟨_, He.frG_in, congrArg Prod.fst e, congrArg Prod.snd e⟩
  keeps := fun _ _ _ ⟨K, hK, c⟩ k => ⟨K, PySem.W.Frag.In.keeps hK k, c⟩
theorem obsYG_eq {n : Nat} {fa : List He.Fa} {fn : List He.DefD} {ex : PySem.W.Frag → Bool} {g : Addr → Option Obj} {s : Shared} (h : ∀ a, g a = s.heap.get? a) : obsYG n fa fn ex g = (hookY n fa fn ex).obs s := by
  have e : g = s.heap.get? := funext h
  rw [e] <;> rfl
theorem roomH_64 {k : Nat} {A : Around} (r : L2H.RoomH k A) : A.units + 64 < cLine := by
  have := r.un
  omega
theorem roomH_65 {k : Nat} {A : Around} (r : L2H.RoomH k A) : A.units + 65 < cLine := by
  have := r.un
  omega
theorem roomS {X : Cx} {k : Nat} {a : Addr} {pn : List (Addr × Obj)} (r : Room k X.A) : L2H.RoomH k (X.suite a pn).A := ⟨r.dp, r.un⟩
def inCls (s : Stmt) (i : Nat) : Stmt := match s with
  | .ClassDef _ _ _ body _ _ _ _ _ _ _ => body.getD i (.Pass ⟨0, 0, 0, 0⟩)
  | _ => .Pass ⟨0, 0, 0, 0⟩
end Mir
namespace Mir
open PySem PySem.W HandSHeadRun
end Mir
namespace Mir
open PySem PySem.Spec L2
def xtab : XTab := [("TurnError", []), ("BadName", ["name"]), ("BadNumber", ["number"]), ("BadSize", ["what", "size"]), ("Repeated", ["name"]), ("Unknown", ["what", "name"]), ("BadEnd", ["way", "place"]), ("NoWalker", ["place"]), ("Occupied", ["place"]), ("Unlike", ["what"]), ("Named", ["names"]), ("TooLarge", ["what", "size"]), ("NoDeed", ["index", "way", "cause"]), ("BadText", ["at"]), ("NoRun", ["at", "cause"]), ("NothingLeft", []), ("BadClaim", []), ("BadRow", ["index"])]
end Mir
namespace Hd
open PySem PySem.Spec PyProof.Rows L2
def top (i : Nat) : Stmt := PySem.Challenge.pw_turnbehind_k02_sorted_or_repeated.main.body.getD i (.Pass ⟨0, 0, 0, 0⟩)
abbrev s_first_repeated : Stmt := top 20
abbrev s_ascending : Stmt := top 21
abbrev s__law_store : Stmt := top 23
abbrev s__law_take : Stmt := top 24
abbrev s__law_range : Stmt := top 25
abbrev s__law_upto : Stmt := top 26
abbrev s__law_seldom : Stmt := top 27
abbrev s__law_one : Stmt := top 28
abbrev s__law_seq : Stmt := top 29
abbrev s__law_text : Stmt := top 30
abbrev s__law_name : Stmt := top 31
abbrev s__law_new_name : Stmt := top 32
abbrev s__law_texts : Stmt := top 33
abbrev s__law_same : Stmt := top 34
abbrev s__law_error : Stmt := top 35
abbrev s__law_error_more : Stmt := top 36
abbrev s__law_twice : Stmt := top 37
abbrev s__law_asked : Stmt := top 38
abbrev s__law_in_order : Stmt := top 39
abbrev s__law_row_right : Stmt := top 40
abbrev s_law : Stmt := top 41
def d_first_repeated : He.DefD := ⟨("first_repeated", none), "first_repeated", "first_repeated", defArgs s_first_repeated, defBody s_first_repeated, defScope s_first_repeated, [], []⟩
def d_ascending : He.DefD := ⟨("ascending", none), "ascending", "ascending", defArgs s_ascending, defBody s_ascending, defScope s_ascending, [], []⟩
def d__law_store : He.DefD := ⟨("_law_store", none), "_law_store", "_law_store", defArgs s__law_store, defBody s__law_store, defScope s__law_store, [], []⟩
def d__law_take : He.DefD := ⟨("_law_take", none), "_law_take", "_law_take", defArgs s__law_take, defBody s__law_take, defScope s__law_take, [], []⟩
def d__law_range : He.DefD := ⟨("_law_range", none), "_law_range", "_law_range", defArgs s__law_range, defBody s__law_range, defScope s__law_range, [], []⟩
def d__law_upto : He.DefD := ⟨("_law_upto", none), "_law_upto", "_law_upto", defArgs s__law_upto, defBody s__law_upto, defScope s__law_upto, [], []⟩
def d__law_seldom : He.DefD := ⟨("_law_seldom", none), "_law_seldom", "_law_seldom", defArgs s__law_seldom, defBody s__law_seldom, defScope s__law_seldom, [], []⟩
def d__law_one : He.DefD := ⟨("_law_one", none), "_law_one", "_law_one", defArgs s__law_one, defBody s__law_one, defScope s__law_one, [], []⟩
def d__law_seq : He.DefD := ⟨("_law_seq", none), "_law_seq", "_law_seq", defArgs s__law_seq, defBody s__law_seq, defScope s__law_seq, [], []⟩
def d__law_text : He.DefD := ⟨("_law_text", none), "_law_text", "_law_text", defArgs s__law_text, defBody s__law_text, defScope s__law_text, [], []⟩
def d__law_name : He.DefD := ⟨("_law_name", none), "_law_name", "_law_name", defArgs s__law_name, defBody s__law_name, defScope s__law_name, [], []⟩
def d__law_new_name : He.DefD := ⟨("_law_new_name", none), "_law_new_name", "_law_new_name", defArgs s__law_new_name, defBody s__law_new_name, defScope s__law_new_name, [], []⟩
def d__law_texts : He.DefD := ⟨("_law_texts", none), "_law_texts", "_law_texts", defArgs s__law_texts, defBody s__law_texts, defScope s__law_texts, [], []⟩
def d__law_same : He.DefD := ⟨("_law_same", none), "_law_same", "_law_same", defArgs s__law_same, defBody s__law_same, defScope s__law_same, [], []⟩
def d__law_error : He.DefD := ⟨("_law_error", none), "_law_error", "_law_error", defArgs s__law_error, defBody s__law_error, defScope s__law_error, [], []⟩
def d__law_error_more : He.DefD := ⟨("_law_error_more", none), "_law_error_more", "_law_error_more", defArgs s__law_error_more, defBody s__law_error_more, defScope s__law_error_more, [], []⟩
def d__law_twice : He.DefD := ⟨("_law_twice", none), "_law_twice", "_law_twice", defArgs s__law_twice, defBody s__law_twice, defScope s__law_twice, [], []⟩
def d__law_asked : He.DefD := ⟨("_law_asked", none), "_law_asked", "_law_asked", defArgs s__law_asked, defBody s__law_asked, defScope s__law_asked, [], []⟩
def d__law_in_order : He.DefD := ⟨("_law_in_order", none), "_law_in_order", "_law_in_order", defArgs s__law_in_order, defBody s__law_in_order, defScope s__law_in_order, [], []⟩
def d__law_row_right : He.DefD := ⟨("_law_row_right", none), "_law_row_right", "_law_row_right", defArgs s__law_row_right, defBody s__law_row_right, defScope s__law_row_right, [], []⟩
def d_law : He.DefD := ⟨("law", none), "law", "law", defArgs s_law, defBody s_law, defScope s_law, [], []⟩
abbrev i_Repeated : Stmt := Mir.inCls (top 5) 0
def di_Repeated : He.DefD := ⟨("Repeated", some "__init__"), "__init__", "Repeated.__init__", defArgs i_Repeated, defBody i_Repeated, defScope i_Repeated, [], []⟩
def fn : List He.DefD := [d_first_repeated, d_ascending, d__law_store, d__law_take, d__law_range, d__law_upto, d__law_seldom, d__law_one, d__law_seq, d__law_text, d__law_name, d__law_new_name, d__law_texts, d__law_same, d__law_error, d__law_error_more, d__law_twice, d__law_asked, d__law_in_order, d__law_row_right, d_law, di_Repeated]
def fa : List He.Fa := [.glo "first_repeated", .glo "ascending", .glo "_law_store", .glo "_law_take", .glo "_law_range", .glo "_law_upto", .glo "_law_seldom", .glo "_law_one", .glo "_law_seq", .glo "_law_text", .glo "_law_name", .glo "_law_new_name", .glo "_law_texts", .glo "_law_same", .glo "_law_error", .glo "_law_error_more", .glo "_law_twice", .glo "_law_asked", .glo "_law_in_order", .glo "_law_row_right", .glo "law", .free "ValueError", .free "bool", .free "int", .free "isinstance", .free "len", .free "list", .free "max", .free "min", .free "range", .free "repr", .free "sorted", .free "str", .free "tuple", .glo "Repeated", .meth "Repeated" "__init__"]
abbrev R : PySem.W.OpenRow := PySem.W.OpenLaw.row PySem.Challenge.rw_turnbehind_k02_sorted_or_repeated
abbrev hk : PySem.W.Hook := Mir.hookY 5 fa fn (Mir.xfB Mir.xtab)
def ob (s : PySem.W.SharedT) : Mir.AlY := Mir.obsYG 5 fa fn (Mir.xfB Mir.xtab) (HandSHeadRun.getT s)
theorem ob_eq (s : PySem.W.SharedT) : ob s = hk.obs s.abs := Mir.obsYG_eq (HandSHeadRun.getT_eq s)
def loose : List PySem.Str := (["_law_name", "NoWalker", "NoRun", "_law_take", "first_repeated", "_law_texts", "_law_one", "Named", "_law_new_name", "_law_same", "_law_asked", "_law_upto", "Repeated", "TurnError", "NoDeed", "_law_error", "BadEnd", "TooLarge", "NothingLeft", "BadText", "_law_seq", "BadClaim", "BadRow", "_law_row_right", "Occupied", "_law_text", "BadName", "BadSize", "_law_twice", "ascending"] : List PySem.Str) ++ (["_law_in_order", "_law_seldom", "_law_store", "Unknown", "_law_error_more", "_law_range", "Unlike", "BadNumber"] : List PySem.Str)
theorem run (w : World) : HandSHeadRun.RunEq R (PySem.W.view R.prog [41]) hk ob 40000 loose w := by
  intro os
  kernel_rfl
end Hd
namespace Mir
open PySem PySem.Spec L2
abbrev VD : Type := V × PyData
open PySem.W (dataLe dataLt AllAlike EachIs alike sorted_data)
abbrev leVD : VD → VD → Bool := dataLe false Prod.snd
def rSrtD (K : PySem.W.Frag) : List V → Hp → VK → Prop := fun vs H Q => ∃ (a : Addr) (bs : List VD), vs = [V.ref a] ∧ (SqL K H a (bs.map Prod.fst) ∨ SqT K H a (bs.map Prod.fst)) ∧ (∀ b ∈ bs, Dp K H b.1 b.2 ∧ b.2.canLay0 = true ∧ b.2.depth ≤ 64) ∧ AllAlike (bs.map Prod.snd) ∧ PySem.W.Sortable (bs.map Prod.snd) ∧
  ∀ p, H p = none → Q (.ref p) (upd H p (.lst ((bs.mergeSort leVD).map Prod.fst)))
namespace TS
open PySem.W PyProof.Rows
variable {prog : Program} {w : World} {A : Around} {E : Value → Shared → Prop} {s : Shared}
theorem collect_tup {l : Addr} {vs : List Value} {Q : List Value → Shared → Prop} (hl : IsTup s.heap l vs.toArray) (hsz : vs.length ≤ sizeLine)
    (h : Q vs { s with heap := (s.heap.push (seqObj "list" #[] 0)).update s.heap.objs.size (Obj.mapSeq (· ++ vs.toArray)) }) : wpAny (model prog w) A (collect (.ref l)) Q E s := by
  obtain ⟨o, ho, hc, n, hd⟩ := hl
  unfold collect
  refine wpAny_bind (wpAny_runValue (codeAny_builtin entry_proto_collect' ?_))
  show wpAny _ _ (do again (.builtin "list.__iadd__" ⟨[← newList [], .ref l], []⟩)) _ _ s
  refine wpAny_bind (wpAny_newList (wpAny_pure ⟨Code.quiet_builtin _ (by decide +kernel), codeAny_builtin entry_list_iadd' ?_⟩))
  have done_ : wpAny (model prog w) A (do
      let o ← load s.heap.objs.size
      match o.data with
      | .seq xs _ => pure xs.toList
      | _ => unsupported "internal:collect") Q E { s with heap := (s.heap.push (seqObj "list" #[] 0)).update s.heap.objs.size (Obj.mapSeq (· ++ vs.toArray)) } := by
    refine wpAny_bind (wpAny_load (get?_update_seq (Heap.get?_push_size _ rfl) _) ?_)
    show wpAny _ _ (pure ((#[] : Array Value) ++ vs.toArray).toList) Q E _
    rw [show ((#[] : Array Value) ++ vs.toArray).toList = vs by simp]
    exact wpAny_pure h
  refine wpAny_mono (wpAny_extend_seq (s := { s with heap := s.heap.push (seqObj "list" #[] 0) }) (R := fun r s' => r = .ok (.ret (.ref s.heap.objs.size)) ∧ s' = { s with heap := (s.heap.push (seqObj "list" #[] 0)).update s.heap.objs.size (Obj.mapSeq (· ++ vs.toArray)) }) s.heap.objs.size l (.ref s.heap.objs.size) 0 (.inr rfl) (Heap.get?_push_size _ rfl) (Heap.get?_push_of_some _ ho) hc hd ⟨rfl, rfl⟩ (by simpa using hsz)) ?_ ?_
  · intro fin s' x
    cases fin with
    | done f =>
      obtain ⟨e, rfl⟩ := x
      cases e
      show wpAny (model prog w) A (do
          let o ← load s.heap.objs.size
          match o.data with
          | .seq xs _ => pure xs.toList
          | _ => unsupported "internal:collect") Q E { s with heap := (s.heap.push (seqObj "list" #[] 0)).update s.heap.objs.size (Obj.mapSeq (· ++ vs.toArray)) }
      exact done_
    | again c =>
      refine ⟨x.1, codeAny_mono x.2 fun q s2 y => ?_⟩
      obtain ⟨rfl, rfl⟩ := y
      exact done_
  · intro e s' x
    cases x.1
theorem sorted_dataT {l : Addr} {vs : List Value} {β : Type} {bs : List β} {enc : β → PyData} {R : Value → β → Prop} {Q : Value → Shared → Prop} (hl : IsTup s.heap l vs.toArray) (e : EachIs R vs bs) (er : EachIs (fun v b => ∃ as, Reads s.heap v (enc b) as) vs bs) (hal : AllAlike (bs.map enc)) (hk : Sortable (bs.map enc)) (hL : bs.length ≤ sizeLine)
    (hu : ∀ b, b ∈ bs → A.units + 2 + (enc b).depth < cLine) (h : ∀ out, out.length = bs.length → EachIs R out (bs.mergeSort (dataLe false enc)) → Q (.ref (s.heap.objs.size + 1)) { s with heap := sortedAll s.heap vs (List.toArray out) }) :
    wpAny (model prog w) A (call (.builtin "sorted") [.ref l]) Q E s := by
  have hL2 : vs.length ≤ sizeLine := by rw [e.length]; exact hL
  have er' : EachIs (fun v b => ∃ as, Reads (sortingHeap (copyHeap s.heap vs) (s.heap.objs.size + 1) vs) v (enc b) as) vs bs := er.mono fun _ _ ⟨as, r⟩ => ⟨as, PyProof.Rows.Reads.keeps (fun _ _ => sorting_copy_old) r⟩
  have S := SortsAt.data (s := { s with heap := sortingHeap (copyHeap s.heap vs) (s.heap.objs.size + 1) vs }) (A := A.in1.in1) (prog := prog) (w := w) (each_map (R := fun v d => ∃ as, Reads (sortingHeap (copyHeap s.heap vs) (s.heap.objs.size + 1) vs) v d as) enc er') hal hk (bound_map hu)
  refine call_function_entry_kw kind_sorted plain_sorted entry_sorted (args_sorted1 _) ?_
  unfold Builtin.«sorted»
  refine wpAny_bind (m := checkCount "sorted" 1 1 _) (wpAny_pure ?_)
  refine wpAny_bind (collect_tup hl hL2 ?_)
  refine wpAny_bind (wpAny_newList ?_ hL2)
  have hsz : ((s.heap.push (seqObj "list" #[] 0)).update s.heap.objs.size (Obj.mapSeq (· ++ vs.toArray))).objs.size = s.heap.objs.size + 1 := by
    rw [Heap.size_update, size_push']
  show wpAny _ _ _ _ _ { s with heap := copyHeap s.heap vs }
  rw [hsz]
  refine wpAny_bind (wpAny_holding (wpAny_call_entry_kw slot_list_sort ⟨_, copyHeap_at s.heap vs, rfl⟩ entry_list_sort ?body (args_list_sort _)))
  case body =>
    show wpAny (model prog w) A.in1.in1 (Builtin.«list.sort» ⟨[.ref (s.heap.objs.size + 1)], []⟩) _ _ _
    refine list_sort_vals (s := { s with heap := copyHeap s.heap vs }) (copyHeap_at s.heap vs) S hL2 ?_
    exact ⟨_, rfl, wpAny_pure ⟨_, rfl, h _ (by rw [sortVals_length false rfl]; exact e.length) (sortVals_data false e er' hal)⟩⟩
end TS
section
variable {X : Cx}
theorem each_of {pins : List (Addr × Obj)} {σ : St} {H : Hp} {s : Shared} (I : Inv X pins σ H s) : ∀ {bs : List VD} {us : List Value}, Vals (bs.map Prod.fst) us → (∀ b ∈ bs, Dp X.K H b.1 b.2) → EachIs (fun u (b : VD) => RelV b.1 u) us bs ∧ EachIs (fun u (b : VD) => ∃ as, Reads s.heap u b.2 as) us bs
  | [], us, h, _ => by
    cases h
    exact ⟨.nil, .nil⟩
  | b :: bs, us, h, d => by
    replace h : Vals (b.1 :: bs.map Prod.fst) us := h
    cases h with
    | cons r t =>
      obtain ⟨h1, h2⟩ := each_of I t fun c hc => d c (List.mem_cons_of_mem _ hc)
      exact ⟨.cons r h1, .cons (Dp.reads I _ _ _ (d b (List.mem_cons_self ..)) r) h2⟩
theorem each_vals : ∀ {bs : List VD} {us : List Value}, EachIs (fun u (b : VD) => RelV b.1 u) us bs → Vals (bs.map Prod.fst) us
  | _, _, .nil => .nil
  | _, _, .cons r t => .cons r (each_vals t)
theorem cr_sortedD (hu : X.A.units + 100 < cLine) : CallR X (.builtin "sorted") (rSrtD X.K) := by
  intro pins s σ H vs us Q I r h
  obtain ⟨a, bs, rfl, hs, hd, hal, hk, q⟩ := h
  have fin : ∀ (its : List Value), bs.length ≤ sizeLine → ∀ out : List Value, out.length = bs.length → EachIs (fun u (b : VD) => RelV b.1 u) out (bs.mergeSort leVD) → ∃ (v : V) (H' : Hp), Inv X pins σ H' { s with heap := PyProof.Rows.sortedAll s.heap its out.toArray } ∧ RelV v (.ref (s.heap.objs.size + 1)) ∧ Q v H' := fun its hz out ho hout => by
    obtain ⟨ep, he'⟩ := PyProof.Rows.sortedAll_at s.heap its out.toArray
    have hlen : ((bs.mergeSort leVD).map Prod.fst).length ≤ sizeLine := by rw [List.length_map, List.length_mergeSort]; exact hz
    exact ⟨.ref _, upd H (s.heap.objs.size + 1) (.lst ((bs.mergeSort leVD).map Prod.fst)), I.laid (t' := s.toks) (fun _ _ => PyProof.Rows.sortedAll_old) (Nat.le_succ _) ⟨hlen, out, ep, each_vals hout, by simpa using he'⟩, rfl, q _ (I.hok.fresh (Nat.le_succ _))⟩
  rcases hs with hs | hs
  · obtain ⟨its, rv, hl, hz⟩ := I.list hs
    rw [Vals.ref1 r]
    obtain ⟨e1, e2⟩ := each_of I rv fun b hb => (hd b hb).1
    rw [List.length_map] at hz
    exact sorted_data (enc := Prod.snd) hl.isList e1 e2 hal hk hz (fun b hb => by have := (hd b hb).2.2; omega) (fin its hz)
  · obtain ⟨its, rv, hl, hz⟩ := I.tuple hs
    rw [Vals.ref1 r]
    obtain ⟨e1, e2⟩ := each_of I rv fun b hb => (hd b hb).1
    rw [List.length_map] at hz
    exact TS.sorted_dataT (enc := Prod.snd) hl e1 e2 hal hk hz (fun b hb => by have := (hd b hb).2.2; omega) (fin its hz)
end
def leS (x y : T) : Bool := !dataLt (toPy y) (toPy x)
def alikeT (ts : List T) : Bool := ts.all fun x => ts.all fun y => alike (toPy x) (toPy y)
def tupNe : PyData → Bool
  | .tuple (_ :: _) => true
  | _ => false
def plainD : PyData → Bool
  | .none => false
  | .tuple _ => false
  | _ => true
def sortT (ts : List T) : List T := ts.mergeSort leS
def okSrt (ts : List T) : Bool := alikeT ts && (ts.all (fun x => tupNe (toPy x)) || ts.all fun x => plainD (toPy x)) && ts.all fun x => (toPy x).canLay0 && decide ((toPy x).depth ≤ 64)
def seqs? : T → Option (List T)
  | .tup ts => some ts
  | x => alist? x
theorem seqs_of {K : PySem.W.Frag} {B H : Hp} {x : T} {v : V} {f : List Addr} {ts : List T} (s : Same B H) (h : VR K B H x v f) (e : seqs? x = some ts) : ∃ a vs, v = .ref a ∧ VRs K B H ts vs [] ∧ (SqL K H a vs ∨ SqT K H a vs) := by
  by_cases c : ∃ us, x = .tup us
  · obtain ⟨us, rfl⟩ := c
    cases e
    unfold VR at h
    obtain ⟨_, a, vs, rfl, q, r⟩ := h
    exact ⟨a, vs, rfl, r, .inr (same_sqT s q)⟩
  · have e : alist? x = some ts := by
      cases x with
      | tup us => exact absurd ⟨us, rfl⟩ c
      | _ => exact e
    obtain ⟨a, vs, h1, h2, h3⟩ := alist_of s h e
    exact ⟨a, vs, h1, h2, .inl h3⟩
def srtD (x : T) : Option T := (seqs? x).bind fun ts => if okSrt ts then some (.own (sortT ts)) else none
theorem VRs.zip_all {K : PySem.W.Frag} {B H : Hp} : ∀ {ts : List T} {vs : List V}, VRs K B H ts vs [] → ∀ p ∈ vs.zip ts, VR K B H p.2 p.1 []
  | [], vs, h, p, hp => by simp at hp
  | t :: ts, vs, h, p, hp => by
    unfold VRs at h
    obtain ⟨v, r, f1, f2, rfl, ef, h1, h2⟩ := h
    obtain ⟨rfl, rfl⟩ := List.append_eq_nil_iff.mp ef.symm
    rw [List.zip_cons_cons] at hp
    rcases List.mem_cons.mp hp with rfl | hp
    · exact h1
    · exact h2.zip_all p hp
theorem VRs.of_all {K : PySem.W.Frag} {B H : Hp} : ∀ {ps : List (V × T)}, (∀ p ∈ ps, VR K B H p.2 p.1 []) → VRs K B H (ps.map Prod.snd) (ps.map Prod.fst) []
  | [], _ => by
    show VRs K B H [] [] []
    unfold VRs; exact ⟨rfl, rfl⟩
  | p :: ps, h => by
    show VRs K B H (p.2 :: ps.map Prod.snd) (p.1 :: ps.map Prod.fst) []
    unfold VRs
    exact ⟨_, _, [], [], rfl, rfl, h p (List.mem_cons_self ..), VRs.of_all fun q hq => h q (List.mem_cons_of_mem _ hq)⟩
section
variable {X : Cx}
theorem cm_srtD : CallM X (rSrtD X.K) (f1 srtD) := callm1 fun B H x tx fx t Q s h e g => by
  unfold srtD at e
  cases z : seqs? tx with
  | none => rw [z] at e; cases e
  | some ts =>
    rw [z] at e
    replace e : (if okSrt ts then some (T.own (sortT ts)) else none) = some t := e
    by_cases c : okSrt ts = true
    · rw [if_pos c] at e
      cases e
      obtain ⟨a, vs, rfl, hv, sq⟩ := seqs_of s h z
      unfold okSrt at c
      obtain ⟨c1, c3⟩ := Bool.and_eq_true_iff.mp c
      obtain ⟨c1, c2⟩ := Bool.and_eq_true_iff.mp c1
      have hl := hv.length
      have za := hv.zip_all
      let ps : List (V × T) := vs.zip ts
      have m1 : ps.map Prod.fst = vs := List.map_fst_zip (by omega)
      have m2 : ps.map Prod.snd = ts := List.map_snd_zip (by omega)
      let f : V × T → VD := fun p => (p.1, toPy p.2)
      have e1 : (ps.map f).map Prod.fst = vs := by rw [List.map_map]; exact m1
      have e2 : (ps.map f).map Prod.snd = ts.map toPy := by
        rw [List.map_map, ← m2, List.map_map]; rfl
      refine ⟨a, ps.map f, rfl, by rw [e1]; exact sq, fun b hb => ?_, ?_, ?_, fun p hp => ?_⟩
      · obtain ⟨p, hp, rfl⟩ := List.mem_map.mp hb
        have hm : p.2 ∈ ts := by rw [← m2]; exact List.mem_map.mpr ⟨p, hp, rfl⟩
        have hc := List.all_eq_true.mp c3 _ hm
        obtain ⟨k1, k2⟩ := Bool.and_eq_true_iff.mp hc
        exact ⟨(za p hp).dp s k1, k1, of_decide_eq_true k2⟩
      · rw [e2]
        intro d hd d' hd'
        obtain ⟨x, hx, rfl⟩ := List.mem_map.mp hd
        obtain ⟨y, hy, rfl⟩ := List.mem_map.mp hd'
        exact List.all_eq_true.mp (List.all_eq_true.mp c1 x hx) y hy
      · rw [e2]
        rcases Bool.or_eq_true_iff.mp c2 with c2 | c2
        · refine .inl fun d hd => ?_
          obtain ⟨x, hx, rfl⟩ := List.mem_map.mp hd
          have := List.all_eq_true.mp c2 x hx
          revert this
          cases toPy x with
          | tuple l =>
            cases l with
            | nil => intro k; cases k
            | cons y r => exact fun _ => ⟨y, r, rfl⟩
          | _ => intro k; cases k
        · refine .inr fun d hd => ?_
          obtain ⟨x, hx, rfl⟩ := List.mem_map.mp hd
          have := List.all_eq_true.mp c2 x hx
          revert this
          cases toPy x with
          | none => intro k; cases k
          | tuple l => intro k; cases k
          | _ => exact fun _ => ⟨(fun z => nomatch z), fun _ z => nomatch z⟩
      · have es : (ps.map f).mergeSort leVD = (ps.mergeSort fun x y => leS x.2 y.2).map f := (List.map_mergeSort (f := f) (fun x _ y _ => rfl)).symm
        have et : sortT ts = (ps.mergeSort fun x y => leS x.2 y.2).map Prod.snd := by
          unfold sortT
          rw [← m2]
          exact (List.map_mergeSort (f := Prod.snd) (fun x _ y _ => rfl)).symm
        have ev : ((ps.map f).mergeSort leVD).map Prod.fst = (ps.mergeSort fun x y => leS x.2 y.2).map Prod.fst := by
          rw [es, List.map_map]; rfl
        rw [ev]
        refine gvL (ts := sortT ts) g s ?_ p hp
        rw [et]
        exact VRs.of_all fun q hq => za q (List.mem_mergeSort.mp hq)
    · rw [if_neg c] at e; cases e
end
end Mir
namespace Mir
open PySem PySem.Spec L2
section
variable {K : PySem.W.Frag} {B H : Hp}
def zipL : List T → List T → List T
  | x :: xs, y :: ys => .yt [x, y] :: zipL xs ys
  | _, _ => []
def tups? : T → Option (List T)
  | .tup ts => some ts
  | _ => none
def zip2 (x y : T) : Option (List T) := match tups? x, tups? y with
  | some ts, some us => some (zipL ts us)
  | none, none => (alist? x).bind fun ts => (alist? y).map fun us => zipL ts us
  | _, _ => none
def zipT : List T → Option (List T)
  | [x, y] => zip2 x y
  | _ => none
def zipM (m : A) : A := fun e => (m e).bind fun ts e1 => optR (zipT ts) e1
end
section
variable {X : Cx} {W : WZ}
def asgG (f : T → Env → Option Env) (m : E) : S := fun e => O.of (m e) fun t e1 => if noOwn t = true then (match f t e1 with
  | some e2 => .nx e2
  | none => .no) else .no
end
end Mir
namespace Mir
open PySem PySem.Spec L2
section
variable {X : Cx}
end
def strsOf : List T → Option (List Str)
  | [] => some []
  | .str i :: r => (strsOf r).map (i :: ·)
  | _ :: _ => none
def posS (z : Str) : List Str → Nat → Option Nat
  | [], _ => none
  | x :: r, k => if x = z then some k else posS z r (k + 1)
def tixT (x y : T) : Option T := match x, y with
  | .tup ts, .str z => (strsOf ts).bind fun zs => (posS z zs 0).map fun j => .int (j : Nat)
  | _, _ => none
def isTup : T → Bool
  | .tup _ => true
  | _ => false
def tixE (a b : E) : E := fun e => (a e).bind fun x e1 => if isTup x = true then (b e1).bind fun y e2 => optR (tixT x y) e2 else .no
section
variable {X : Cx} {W : WZ}
end
def gvK (kvs : List (Key × T)) (k : Key) : Option T := (kvs.find? fun kv => decide (kv.1 = k)).map (·.2)
def pvK (kvs : List (Key × T)) (k : Key) (v : T) : List (Key × T) :=
  if (kvs.any fun kv => decide (kv.1 = k)) = true then kvs.map (fun kv => if kv.1 = k then (kv.1, v) else kv) else kvs ++ [(k, v)]
section
variable {K : PySem.W.Frag} {B H : Hp}
theorem VRk.get (k : Key) : ∀ {kvs : List (Key × T)} {ws : List (Key × V)}, VRk K B H kvs ws → (∀ t, gvK kvs k = some t → ∃ v, valV ws k = some v ∧ VR K B H t v []) ∧ (gvK kvs k = none → valV ws k = none)
  | [], ws, h => by
    unfold VRk at h
    subst h
    exact ⟨fun t e => (by cases e), fun _ => rfl⟩
  | p :: ps, ws, h => by
    unfold VRk at h
    obtain ⟨v, r, rfl, h1, h2⟩ := h
    by_cases c : p.1 = k
    · have e1 : gvK (p :: ps) k = some p.2 := by simp [gvK, List.find?_cons, c]
      rw [e1, valV_pos (p := (p.1, v)) c]
      exact ⟨fun t e => (by cases e; exact ⟨v, rfl, h1⟩), fun e => (by cases e)⟩
    · have e1 : gvK (p :: ps) k = gvK ps k := by simp [gvK, List.find?_cons, c]
      rw [e1, valV_neg (p := (p.1, v)) c]
      exact VRk.get k h2
theorem VRk.any (k : Key) : ∀ {kvs : List (Key × T)} {ws : List (Key × V)}, VRk K B H kvs ws → (ws.any fun kv => decide (kv.1 = k)) = kvs.any fun kv => decide (kv.1 = k)
  | [], ws, h => by unfold VRk at h; subst h; rfl
  | p :: ps, ws, h => by
    unfold VRk at h
    obtain ⟨v, r, rfl, h1, h2⟩ := h
    rw [List.any_cons, List.any_cons, VRk.any k h2]
theorem VRk.repl {k : Key} {t : T} {u : V} (hu : VR K B H t u []) : ∀ {kvs : List (Key × T)} {ws : List (Key × V)}, VRk K B H kvs ws → VRk K B H (kvs.map fun kv => if kv.1 = k then (kv.1, t) else kv) (ws.map fun kv => if kv.1 = k then (kv.1, u) else kv)
  | [], ws, h => by unfold VRk at h; subst h; unfold List.map VRk; rfl
  | p :: ps, ws, h => by
    unfold VRk at h
    obtain ⟨v, r, rfl, h1, h2⟩ := h
    rw [List.map_cons, List.map_cons]
    by_cases c : p.1 = k
    · rw [if_pos c, if_pos c]
      unfold VRk
      exact ⟨u, _, rfl, hu, VRk.repl hu h2⟩
    · rw [if_neg c, if_neg c]
      unfold VRk
      exact ⟨v, _, rfl, h1, VRk.repl hu h2⟩
theorem VRk.snoc {k : Key} {t : T} {u : V} (hu : VR K B H t u []) : ∀ {kvs : List (Key × T)} {ws : List (Key × V)}, VRk K B H kvs ws → VRk K B H (kvs ++ [(k, t)]) (ws ++ [(k, u)])
  | [], ws, h => by
    unfold VRk at h
    subst h
    show VRk K B H [(k, t)] [(k, u)]
    unfold VRk
    refine ⟨u, [], rfl, hu, ?_⟩
    unfold VRk
    rfl
  | p :: ps, ws, h => by
    unfold VRk at h
    obtain ⟨v, r, rfl, h1, h2⟩ := h
    show VRk K B H (p :: (ps ++ [(k, t)])) ((p.1, v) :: (r ++ [(k, u)]))
    unfold VRk
    exact ⟨v, _, rfl, h1, VRk.snoc hu h2⟩
theorem VRk.put {k : Key} {t : T} {u : V} {kvs : List (Key × T)} {ws : List (Key × V)} (h : VRk K B H kvs ws) (hu : VR K B H t u []) : VRk K B H (pvK kvs k t) (putK ws k u) := by
  unfold pvK putK
  rw [h.any k]
  by_cases c : (kvs.any fun kv => decide (kv.1 = k)) = true
  · rw [if_pos c, if_pos c]; exact h.repl hu
  · rw [if_neg c, if_neg c]; exact h.snoc hu
theorem VRk.len : ∀ {kvs : List (Key × T)} {ws : List (Key × V)}, VRk K B H kvs ws → ws.length = kvs.length
  | [], ws, h => by unfold VRk at h; subst h; rfl
  | p :: ps, ws, h => by
    unfold VRk at h
    obtain ⟨v, r, rfl, h1, h2⟩ := h
    rw [List.length_cons, List.length_cons, VRk.len h2]
end
def keyOf : T → Option Key
  | .int i => some (.inl i)
  | .str s => some (.inr s)
  | _ => none
def dct? : T → Option (List (Key × T))
  | .odc kvs => some kvs
  | .dct kvs => some kvs
  | _ => none
section
variable {K : PySem.W.Frag} {B H : Hp}
theorem key_of {t : T} {v : V} {f : List Addr} {k : Key} (h : VR K B H t v f) (e : keyOf t = some k) : v = kV k := by
  cases t with
  | int i => cases e; rw [vrI h]; rfl
  | str i => cases e; rw [vrS h]; rfl
  | _ => cases e
theorem dct_of {t : T} {v : V} {f : List Addr} {kvs : List (Key × T)} (s : Same B H) (h : VR K B H t v f) (e : dct? t = some kvs) : ∃ a ws, v = .ref a ∧ Rd H a (.dK ws) ∧ VRk K B H kvs ws := by
  cases t with
  | odc us => cases e; unfold VR at h; obtain ⟨a, ws, rfl, _, q, r⟩ := h; exact ⟨a, ws, rfl, .inl q, r⟩
  | dct us => cases e; unfold VR at h; obtain ⟨_, a, ws, rfl, q, r⟩ := h; exact ⟨a, ws, rfl, same_rd s q, r⟩
  | _ => cases e
end
theorem dgetR {H : Hp} {a : Addr} {kvs : List (Key × V)} {k : Key} (e : Rd H a (.dK kvs)) : DGet H a (kV k) (valV kvs k) := .inl ⟨kvs, k, e, rfl, rfl⟩
def dgT (x y : T) : Option T := (dct? x).bind fun kvs => (keyOf y).bind fun k => gvK kvs k
abbrev rDI : R2 := fun y x H Q => ∃ a o, x = .ref a ∧ DGet H a y o ∧ Q (.bl o.isSome) H
def dinT (x y : T) : Option T := (dct? y).bind fun kvs => (keyOf x).map fun k => .bl (gvK kvs k).isSome
section
variable {X : Cx} {W : WZ}
theorem opm_din : OpM X rDI dinT := fun B H x y tx ty f1 f2 Q s hx hy g => by
  unfold dinT at g
  cases z : dct? ty with
  | none => rw [z] at g; exact g.elim
  | some kvs =>
    rw [z] at g
    replace g : GivesM X.K B H ((keyOf tx).map fun k => .bl (gvK kvs k).isSome) Q := g
    cases z2 : keyOf tx with
    | none => rw [z2] at g; exact g.elim
    | some k =>
      rw [z2] at g
      replace g : GivesM X.K B H (some (.bl (gvK kvs k).isSome)) Q := g
      obtain ⟨a, ws, rfl, hq, r⟩ := dct_of s hy z
      refine ⟨a, _, rfl, by rw [key_of hx z2]; exact dgetR hq, ?_⟩
      have e : (valV ws k).isSome = (gvK kvs k).isSome := by
        cases z3 : gvK kvs k with
        | none => rw [(r.get k).2 z3]; rfl
        | some t => obtain ⟨v, h1, _⟩ := (r.get k).1 t z3; rw [h1]; rfl
      rw [e]
      exact gvB g s
theorem op_din (hu : X.A.units + 1 < cLine) : OpR X (compareOp .In) rDI := by
  intro pins s σ H x y v u Q I rx ry h
  obtain ⟨a, o, rfl, g, q⟩ := h
  cases ry
  exact d_in hu I g rx fun s' I' => ⟨.bl o.isSome, H, I', rfl, q⟩
theorem dinT_bl {x y t : T} (h : dinT x y = some t) : ∃ b, t = .bl b := by
  unfold dinT at h
  cases z : dct? y with
  | none => rw [z] at h; cases h
  | some kvs =>
    rw [z] at h
    obtain ⟨k, _, e⟩ := Option.map_eq_some_iff.mp h
    exact ⟨_, e.symm⟩
theorem me_dnew {pos : Pos} : ME X W (.Dict [] [] pos) [] [] (con (.odc [])) := ⟨_, pe_dnewK, fun B H env σ fp Q r p => by
  intro a ha
  have hB := off_of r.sub ha
  have al : Alo B H B (upd H a (.dK [])) := ⟨Same.refl _, upd_sameH ha, fun c hc => .inl hc, fun c o hc => upd_sameH ha c o (r.sub c o hc)⟩
  refine p (.ref a) B _ fp [a] (r.alo al) al.fr ⟨?_, by simp, fun c hc => ?_, fun c hc => .inl ?_⟩
  · unfold VR
    exact ⟨a, [], rfl, rfl, upd_same, by unfold VRk; rfl⟩
  · have e : c = a := by simpa using hc
    subst e; exact hB
  · have e : c = a := by simpa using hc
    subst e
    refine ⟨ha, fun j hj => ?_⟩
    obtain ⟨o, ho, _⟩ := r.cell hj
    rw [ha] at ho; cases ho⟩
def dctAt (e : Env) (i : Nat) : Option (List (Key × T)) := match e[i]?.join with
  | some (.odc ts) => some ts
  | _ => none
theorem dctAt_of {e : Env} {i : Nat} {ts : List (Key × T)} (h : dctAt e i = some ts) : e[i]?.join = some (.odc ts) := by
  unfold dctAt at h
  split at h
  · rename_i us h2; rw [h2]; cases h; rfl
  · cases h
theorem dct_slot {Z : Option Zx} {K : PySem.W.Frag} {B H : Hp} {env : Env} {σ : St} {fp : Fp} {i : Nat} {ts : List (Key × T)} (r : Rel Z K B H env σ fp) (h : dctAt env i = some ts) :
    ∃ a ws, σ[i]? = some (some (.ref a)) ∧ fp i = [a] ∧ H a = some (.dK ws) ∧ VRk K B H ts ws ∧ env[i]?.join = some (.odc ts) := by
  have e := dctAt_of h
  have q := r.at_ i
  rw [e] at q
  obtain ⟨v, hv, vr⟩ := q
  unfold VR at vr
  obtain ⟨a, ws, rfl, hf, ha, rs⟩ := vr
  refine ⟨a, ws, ?_, hf, ha, rs, e⟩
  cases z : σ[i]? with
  | none => rw [z] at hv; cases hv
  | some u => rw [z] at hv; exact congrArg some hv
theorem Rel.redict {Z : Option Zx} {K : PySem.W.Frag} {B H H0 : Hp} {env : Env} {σ : St} {fp : Fp} {i : Nat} {ts us : List (Key × T)} {a : Addr} {ws : List (Key × V)} (r : Rel Z K B H env σ fp) (et : env[i]?.join = some (.odc ts)) (ev : σ[i]? = some (some (.ref a))) (hf : fp i = [a])
    (h0 : ∀ a, H a = none → H0 a = none) (vr : VRk K B H us ws) :
    Rel Z K B (upd H a (.dK ws)) (env.set i (some (.odc us))) σ (fp0 fp i [a]) ∧ ∀ ms B0 fq, Fr ms B0 H0 fq B H fp → Fr (ms ++ [i]) B0 H0 fq B (upd H a (.dK ws)) (fp0 fp i [a]) := by
  refine r.change et (join_of ev) (fun c o hc n => ?_) (fun c hc => ?_) h0 ?_ (by simp) (fun c hc => ?_) (fun c hc => ?_)
  · rw [upd_ne fun z => n (by rw [z, hf]; exact List.mem_cons_self ..)]; exact hc
  · by_cases e : c = a
    · subst e; rw [upd_same] at hc; cases hc
    · rw [upd_ne e] at hc; exact hc
  · unfold VR
    exact ⟨a, ws, rfl, rfl, upd_same, vr.mono (Same.refl B)⟩
  · exact r.off i c (by rw [hf]; exact hc)
  · exact .inl (by rw [hf]; exact hc)
def dputAt (i : Nat) (t : T) (e : Env) (j : T) : O := match dctAt e i with
  | some kvs => (match keyOf j with
    | some k => if kvs.length < sizeLine ∧ noOwn t = true then .nx (e.set i (some (.odc (pvK kvs k t)))) else .no
    | none => .no)
  | none => .no
def dputS (i : Nat) (k m : E) : S := fun e => O.of (m e) fun t e1 => match dctAt e1 i with
  | some _ => O.of (k e1) fun j e2 => dputAt i t e2 j
  | none => .no
theorem dputAt_ok {i : Nat} {t : T} {e : Env} {j : T} (h : dputAt i t e j ≠ .no) : ∃ kvs k, dctAt e i = some kvs ∧ keyOf j = some k ∧ kvs.length < sizeLine ∧ noOwn t = true ∧ dputAt i t e j = .nx (e.set i (some (.odc (pvK kvs k t)))) := by
  unfold dputAt at h ⊢
  cases z : dctAt e i with
  | none => rw [z] at h; exact absurd rfl h
  | some kvs =>
    rw [z] at h
    dsimp only at h ⊢
    cases z2 : keyOf j with
    | none => rw [z2] at h; exact absurd rfl h
    | some k =>
      rw [z2] at h
      dsimp only at h ⊢
      by_cases c : kvs.length < sizeLine ∧ noOwn t = true
      · rw [if_pos c]; exact ⟨kvs, k, rfl, rfl, c.1, c.2, rfl⟩
      · rw [if_neg c] at h; exact absurd rfl h
theorem ms_dput {st : Stmt} {e q : Expr} {i : Nat} {ks s1 s2 m1 m2 : List Nat} {m k : E} (ps : ∀ {te ti : TE}, PE X e te → PE X q ti → PS X st (sDPut (tVar i) ti te)) (h : ME X W e s1 m1 m) (hk : ME X W q s2 m2 k) (d : ∀ c ∈ s1, c ∉ m2) : MS X W ks st [] (m1 ++ m2 ++ [i]) (dputS i k m) := by
  obtain ⟨t, ht, hm⟩ := h
  obtain ⟨t2, ht2, hm2⟩ := hk
  refine ⟨_, ps ht ht2, fun B H env σ fp D r p => ?_⟩
  show t σ H fun v H1 => tVar i σ H1 fun x H2 => t2 σ H2 fun y H3 => ∃ a H4, x = .ref a ∧ DPut H3 a y v H4 ∧ D.nx σ H4
  refine hm B H env σ fp _ r ?_
  unfold dputS at p
  have wk : ∀ c ∈ m1, c ∈ m1 ++ m2 ++ [i] := fun c hc => List.mem_append_left _ (List.mem_append_left _ hc)
  cases z : m env with
  | no => rw [z] at p; exact p
  | ex x e1 => rw [z] at p; exact fun cls d B' H' fp' r' fr => p cls d σ B' H' fp' r' (fr.weak wk) .refl
  | ok u e1 =>
    rw [z] at p
    intro y B1 H1 fp1 f r1 fr1 g1
    replace p : PostS X.K X.mg W ks σ B H fp [] (m1 ++ m2 ++ [i]) (match dctAt e1 i with
      | some _ => O.of (k e1) fun j e2 => dputAt i u e2 j
      | none => .no) D := p
    cases z1 : dctAt e1 i with
    | none => rw [z1] at p; exact False.elim p
    | some us =>
      rw [z1] at p
      replace p : PostS X.K X.mg W ks σ B H fp [] (m1 ++ m2 ++ [i]) (O.of (k e1) fun j e2 => dputAt i u e2 j) D := p
      obtain ⟨a, _, ev, _, _, _, _⟩ := dct_slot r1 z1
      refine ⟨.ref a, ev, ?_⟩
      refine hm2 B1 H1 e1 σ fp1 _ r1 ?_
      cases z2 : k e1 with
      | no => rw [z2] at p; exact p
      | ex x e2 => rw [z2] at p; exact fun cls d B' H' fp' r' fr => p cls d σ B' H' fp' r' ((fr1.trans fr).weak fun c hc => List.mem_append_left _ hc) .refl
      | ok j e2 =>
        rw [z2] at p
        intro w B2 H2 fp2 f2 r2 fr2 g2
        replace p : PostS X.K X.mg W ks σ B H fp [] (m1 ++ m2 ++ [i]) (dputAt i u e2 j) D := p
        obtain ⟨kvs, kk, z3, z4, z5, z6, z7⟩ := dputAt_ok (i := i) (t := u) (e := e2) (j := j) fun z => by rw [z] at p; exact p
        rw [z7] at p
        obtain ⟨b, ws, ev1, hf1, hb, rs1, et1⟩ := dct_slot r2 z3
        have eab : b = a := by rw [ev] at ev1; injection ev1 with ev1; injection ev1 with ev1; injection ev1 with ev1; exact ev1.symm
        subst eab
        have y2 := VRs.nil_own (g1.keep d r1 fr2) z6
        have frs := fr1.trans fr2
        obtain ⟨r3, k3⟩ := r2.redict (H0 := H) et1 ev1 hf1 (fun c hc => frs.grow c hc) (rs1.put (k := kk) y2)
        exact ⟨b, _, rfl, by rw [key_of g2.vr z4]; exact DPut.k hb (by rw [rs1.len]; exact z5), p σ B2 _ _ r3 (k3 _ B fp frs) .refl⟩
def daugEnd (i : Nat) (k : Key) (v : Int) (t : T) (e : Env) : O := match t with
  | .int n => (match dctAt e i with
    | some kvs => if kvs.length < sizeLine then .nx (e.set i (some (.odc (pvK kvs k (.int v))))) else .no
    | none => .no)
  | _ => .no
def daugI (i : Nat) (g : Int → Int → Int) (k m : E) : S := fun e => match dctAt e i with
  | some _ => O.of (k e) fun j e1 => (match dctAt e1 i, keyOf j with
    | some kvs, some kk => (match gvK kvs kk with
      | some (.int n) => O.of (m e1) fun t e2 => (match t with
        | .int n2 => daugEnd i kk (g n n2) t e2
        | _ => .no)
      | _ => .no)
    | _, _ => .no)
  | none => .no
end
end Mir
namespace Mir
open PySem PySem.Spec L2
structure AccD (K : PySem.W.Frag) (H1 : Hp) (D : Addr) (B H : Hp) (fp : Fp) (acc : List (Key × T)) (ws : List (Key × V)) : Prop where
  at_ : H D = some (.dK ws)
  vr : VRk K B H acc ws
  new : H1 D = none ∧ B D = none ∧ ∀ j, D ∉ fp j
theorem AccD.move {K : PySem.W.Frag} {H1 : Hp} {D : Addr} {B H B' H' : Hp} {fp fp' : Fp} {acc : List (Key × T)} {ws : List (Key × V)} {ms : List Nat} (l : AccD K H1 D B H fp acc ws) (a : Fr ms B H fp B' H' fp') : AccD K H1 D B' H' fp' acc ws := by
  refine ⟨a.keep D _ l.at_ fun i _ => l.new.2.2 i, l.vr.mono a.b, l.new.1, ?_, fun j hj => ?_⟩
  · cases q : B' D with
    | none => rfl
    | some u =>
      rcases a.fresh D (by rw [q]; exact fun z => nomatch z) with h | h | ⟨i, hi, h⟩
      · exact absurd l.new.2.1 h
      · rw [l.at_] at h; cases h
      · exact absurd h (l.new.2.2 i)
  · rcases a.fpm j D hj with h | h
    · exact l.new.2.2 j h
    · rw [l.at_] at h; cases h
structure DcSt (Z : Option Zx) (K : PySem.W.Frag) (B1 H1 : Hp) (fp1 : Fp) (σ : St) (ms vs : List Nat) (D : Addr) (B H : Hp) (e : Env) (fp : Fp) (acc : List (Key × T)) : Prop where
  rel : Rel Z K B H e (L2.wipe σ vs) fp
  fr : Fr ms B1 H1 fp1 B H fp
  wp : ∀ v ∈ vs, fp v = []
  acc : ∃ ws, AccD K H1 D B H fp acc ws
section
variable {X : Cx} {W : WZ}
end
end Mir
namespace Mir
open PySem PySem.Spec L2
def inAt (ts : List T) (j : T) : Option (Nat × List T) := match j with
  | .int n => (ixN ts.length n).bind fun q => match ts[q]? with
    | some (.own us) => some (q, us)
    | _ => none
  | _ => none
theorem inAt_ok {ts : List T} {j : T} {p : Nat × List T} (h : inAt ts j = some p) : ∃ n, j = .int n ∧ ixN ts.length n = some p.1 ∧ ts[p.1]? = some (.own p.2) := by
  unfold inAt at h
  cases j with
  | int n =>
    dsimp only at h
    cases z : ixN ts.length n with
    | none => rw [z] at h; cases h
    | some q =>
      rw [z] at h
      replace h : (match ts[q]? with
        | some (.own us) => some (q, us)
        | _ => none) = some p := h
      split at h
      · rename_i us hu
        cases h
        exact ⟨n, rfl, z, hu⟩
      · cases h
  | _ => cases h
def inApp (i q : Nat) (t : T) (e : Env) : R T := match ownAt e i with
  | some ts => (match ts[q]? with
    | some (.own us) => if us.length < sizeLine then .ok .non (e.set i (some (.own (ts.set q (.own (us ++ [t])))))) else .no
    | _ => .no)
  | none => .no
def nappE (i : Nat) (k m : E) : E := fun e => match ownAt e i with
  | some _ => (k e).bind fun j e1 => match (ownAt e1 i).bind fun ts => inAt ts j with
    | some p => (m e1).bind fun t e2 => inApp i p.1 t e2
    | none => .no
  | none => .no
section
variable {X : Cx} {W : WZ}
end
section
variable {X : Cx} {W : WZ}
theorem u1 {A : Around} (h : A.units + 64 < cLine) : A.units + 1 < cLine := by omega
end
section
variable {X : Cx}
end
end Mir
namespace Mir
open PySem PySem.Spec L2
def lixT (x y : T) : Option T := match y with
  | .str z => (alist? x).bind fun ts => (strsOf ts).bind fun zs => (posS z zs 0).map fun j => .int (j : Nat)
  | _ => none
def lixE (a b : E) : E := fun e => (a e).bind fun x e1 => if (alist? x).isSome = true then (b e1).bind fun y e2 => optR (lixT x y) e2 else .no
section
variable {X : Cx} {W : WZ}
end
def extendE (i : Nat) (m : E) : E := fun e => match ownAt e i with
  | some _ => (m e).bind fun t e1 => match ownAt e1 i, list? t with
    | some ts, some us => if ts.length + us.length ≤ sizeLine then .ok .non (e1.set i (some (.own (ts ++ us)))) else .no
    | _, _ => .no
  | none => .no
section
variable {X : Cx} {W : WZ}
end
def starA (a : E) (r : A) : A := fun e => (a e).bind fun x e1 => match flat? x with
  | some ts => (r e1).bind fun xs e2 => .ok (ts ++ xs) e2
  | none => .no
section
variable {X : Cx} {W : WZ}
end
def isiT2 (n1 n2 : String) (x : T) : Option T := (kitB (tyN x) n1).bind fun b1 => (kitB (tyN x) n2).map fun b2 => .bl (b1 || b2)
section
variable {X : Cx} {W : WZ}
end
end Mir
namespace Mir
open PySem PySem.Spec L2
open Sem (wp)
section
variable {prog : Program} {w : World} {A : Around} {E : Value → Shared → Prop} {s : Shared}
end
section
variable {X : Cx}
end
def itl (m : E) : A := fun e => (m e).bind fun t e1 => optR (alist? t) e1
section
variable {X : Cx} {W : WZ}
theorem PinZ.hot {z : Zx} (P : PinZ X z) : L2H.HotC X := by
  obtain ⟨oe, vs, h1, _, h2, h3⟩ := P.ex
  exact ⟨(z.a, oe), ⟨P.hd, vs, h2, h3⟩, h1⟩
end
end Mir
namespace Mir
open PySem PySem.Spec L2
section
variable {K : PySem.W.Frag} {B H : Hp}
end
structure CalD (P : Program) (w : World) (K : PySem.W.Frag) (mg : Str → Option Value) (base : Heap) (st : Stmt) (k : Nat) (x : Str) (ps : List Str) (m : F) (dvs : List V) : Prop where
  ex : ∃ f fd, FnG P w K mg base k f fd ps [] m ∧ mg x = some (.ref f) ∧ ∃ n : Str, FunD K n n (defArgs st) (defBody st) (defScope st) dvs [] f fd
section
variable {X : Cx} {W : WZ}
end
end Mir
namespace Mir
open PySem PySem.Spec L2
section
variable {X : Cx}
end
def blsOf : List T → Option (List Bool)
  | [] => some []
  | .bl b :: r => (blsOf r).map (b :: ·)
  | _ :: _ => none
def cntT (x y : T) : Option T := match y with
  | .bl b => (alist? x).bind fun ts => (blsOf ts).map fun bs => .int (bs.count b : Nat)
  | _ => none
def cntE (a b : E) : E := fun e => (a e).bind fun x e1 => if (alist? x).isSome = true then (b e1).bind fun y e2 => optR (cntT x y) e2 else .no
section
variable {X : Cx} {W : WZ}
end
def reverseE (i : Nat) : E := fun e => match ownAt e i with
  | some ts => if noOwns ts = true then .ok .non (e.set i (some (.own ts.reverse))) else .no
  | none => .no
section
variable {X : Cx} {W : WZ}
end
end Mir
namespace Mir
open PySem PySem.Spec L2
def PostIB (K : PySem.W.Frag) (mg : Str → Option Value) (W : WZ) (σ : St) (B H : Hp) (fp : Fp) (ms : List Nat) (r : R (List T)) (P : It → Hp → Prop) : Prop := match r with
  | .ok its e => ∀ J B' H' fp' (live : Hp → Prop), Rel W.z K B' H' e σ fp' → Fr ms B H fp B' H' fp' → WalkT K J its (fun B _ => live B) → live B' → (∀ B2, Same B' B2 → live B2) → P J H'
  | .ex x e => ∀ cls d B' H' fp', Rel W.z K B' H' e σ fp' → Fr ms B H fp B' H' fp' → ExR K mg B' x cls d → W.w cls d σ H'
  | .no => False
def MIB (X : Cx) (W : WZ) (tg iter : Expr) (ms : List Nat) (m : A) : Prop := ∃ wi : TI, PI X tg iter wi ∧ ∀ B H env σ fp P, Rel W.z X.K B H env σ fp → PostIB X.K X.mg W σ B H fp ms (m env) P → wi σ H P
section
variable {X : Cx} {W : WZ}
end
def lc2L (f : T → Env → Option Env) (tt : C) (it1 : A) (f1 : T → Env → Option Env) (tt1 : C) (te : E) (vs vs1 : List Nat) : List T → List T → Env → R (List T)
  | [], acc, e => .ok acc e
  | t :: its, acc, e => match f t e with
    | none => .no
    | some e1 => match tt e1 with
      | .ok b e2 => if b then (match it1 e2 with
        | .ok its1 e3 => if calmAt e3 vs1 = true then (match lcL f1 tt1 te vs1 its1 acc (wipeE e3 vs1) with
          | .ok acc1 e4 => if calmAt e4 vs = true then lc2L f tt it1 f1 tt1 te vs vs1 its acc1 (wipeE e4 vs) else .no
          | _ => .no) else .no
        | _ => .no) else if calmAt e2 vs = true then lc2L f tt it1 f1 tt1 te vs vs1 its acc (wipeE e2 vs) else .no
      | _ => .no
def lc2M (it : A) (f : T → Env → Option Env) (tt : C) (it1 : A) (f1 : T → Env → Option Env) (tt1 : C) (te : E) (vs vs1 : List Nat) : E := fun e => (it e).bind fun its e1 =>
  if calmL e1 vs = true then (lc2L f tt it1 f1 tt1 te vs vs1 its [] (wipeE e1 vs)).bind fun ts e2 => .ok (.own ts) (unwipe e1 e2 vs) else .no
section
variable {X : Cx} {W : WZ}
def canIB (K : PySem.W.Frag) (mg : Str → Option Value) (W : WZ) (ms : List Nat) (m : A) : TI := fun σ H P => ∃ B env fp, Rel W.z K B H env σ fp ∧ PostIB K mg W σ B H fp ms (m env) P
theorem MIB.can {tg iter : Expr} {ms : List Nat} {m : A} (h : MIB X W tg iter ms m) : PI X tg iter (canIB X.K X.mg W ms m) := by
  obtain ⟨t, ht, hm⟩ := h
  exact ⟨fun pins s σ H Q I ⟨B, env, fp, r, p⟩ => ht.run pins s σ H Q I (hm B H env σ fp Q r p)⟩
end
end Mir
namespace PySem
open Sem (wp)
end PySem
namespace Mir
open PySem PySem.Spec L2
section
variable {K : PySem.W.Frag} {B H : Hp}
def enL : Nat → List T → List T
  | _, [] => []
  | i, t :: ts => .yt [.int i, t] :: enL (i + 1) ts
def enT : List T → Option (List T)
  | [x] => match tups? x with
    | some ts => some (enL 0 ts)
    | none => (alist? x).map fun ts => enL 0 ts
  | _ => none
def enM (m : A) : A := fun e => (m e).bind fun ts e1 => optR (enT ts) e1
end
section
variable {X : Cx} {W : WZ}
end
end Mir
namespace Mir
open PySem PySem.Spec L2
section
variable {K : PySem.W.Frag} {B H : Hp}
def zipL3 : List T → List T → List T → List T
  | x :: xs, y :: ys, z :: zs => .yt [x, y, z] :: zipL3 xs ys zs
  | _, _, _ => []
def zip3T : List T → Option (List T)
  | [x, y, z] => (tups? x).bind fun xs => (tups? y).bind fun ys => (tups? z).map fun zs => zipL3 xs ys zs
  | _ => none
def zip3M (m : A) : A := fun e => (m e).bind fun ts e1 => optR (zip3T ts) e1
end
section
variable {X : Cx} {W : WZ}
end
end Mir
namespace Mir
open PySem PySem.Spec L2
def jnT (x y : T) : Option T := match x with
  | .str a => (alist? y).bind fun ts => (strsOf ts).bind fun ys => if (ys.map (·.length)).sum + ys.length * a.length ≤ 16777216 then some (.str (Txt.join a ys)) else none
  | _ => none
def isSt : T → Bool
  | .str _ => true
  | _ => false
def joinE (a b : E) : E := fun e => (a e).bind fun x e1 => if isSt x = true then (b e1).bind fun y e2 => optR (jnT x y) e2 else .no
section
variable {X : Cx} {W : WZ}
end
end Mir
namespace Mir
open PySem PySem.Spec L2
end Mir
namespace HT
open PySem PyProof.Rows
open Sem (wp)
section
variable {prog : Program} {w : World} {A : Around} {E : Value → Shared → Prop} {s : Shared}
end
end HT
namespace Mir
open PySem PySem.Spec L2
section
variable {X : Cx} {W : WZ}
def revT (x : T) : Option T := match tups? x with
  | some ts => some (.tup ts.reverse)
  | none => (alist? x).map fun ts => .own ts.reverse
def lrgT : T → Option T
  | .int n => if n.natAbs ≤ 16777216 then some (.own ((List.range n.toNat).map fun i => .int (i : Nat))) else none
  | _ => none
def keyT : Key → T
  | .inl i => .int i
  | .inr s => .str s
def lidT : T → Option T
  | .odc kvs => some (.own (kvs.map fun kv => keyT kv.1))
  | _ => none
def disp1 (k v : E) : E := fun e => (k e).bind fun x e1 => (v e1).bind fun y e2 => match keyOf x with
  | some ky => if noOwn y = true then .ok (.odc [(ky, y)]) e2 else .no
  | none => .no
end
end Mir
namespace Mir
open PySem PySem.Spec L2
open PySem.W (dataLt alike)
section
variable {X : Cx} {K : PySem.W.Frag} {B H : Hp}
end
section
variable {X : Cx} {W : WZ}
end
end Mir
namespace Mir
open PySem PySem.Spec L2 PyProof.Rows
section
variable {X : Cx} {K : PySem.W.Frag} {B H : Hp}
end
end Mir
namespace Mir
open PySem PySem.Spec L2
section
variable {K : PySem.W.Frag} {B H B' H' : Hp}
end
section
variable {K : PySem.W.Frag} {B H H' : Hp} {a : Addr} {od : Obj} {ws : List (Key × V)}
end
section
variable {X : Cx} {W : WZ}
end
section
variable {X : Cx} {W : WZ}
end
end Mir
namespace PySem.AutoSeq1
open PySem PySem.Spec PyProof.Rows
end PySem.AutoSeq1
namespace Mir
open PySem PySem.Spec L2
section
variable {X : Cx} {W : WZ}
end
end Mir
namespace Mir
open PySem PySem.Spec L2
theorem wpAny_execs_app {M : Model} {A : Around} {E : Value → Shared → Prop} {env : PySem.Env} {rest : List Stmt} {Q : Flow → Shared → Prop} {l : List Stmt} {s : Shared}
    (h : wpAny M A (execs l env) (fun f s' => match f with | .next => wpAny M A (execs rest env) Q E s' | f => Q f s') E s) : wpAny M A (execs (l ++ rest) env) Q E s := fun Γ p hΓ => by
  have h0 := h Γ p hΓ
  clear h
  induction l generalizing s p with
  | nil => exact h0 Γ p hΓ
  | cons st l ih =>
    rw [List.cons_append, execs_cons, Sem.wp_bind']
    rw [execs_cons, Sem.wp_bind'] at h0
    refine Sem.wp_mono M Γ _ (fun f p' s' h' => ?_) (fun _ _ _ h' => h') _ _ h0
    cases f with
    | next => exact ih p' h'
    | _ => exact h'
section
variable {X : Cx} {W : WZ} {ks : List Nat}
theorem pss_app {a b : List Stmt} {t u : TS} (h1 : PSs X a t) (h2 : PSs X b u) : PSs X (a ++ b) (tSeq t u) := by
  refine ⟨fun pins s σ H D I h => ?_⟩
  refine wpAny_execs_app (thn (h1.run pins s σ H { D with nx := u D } I h) fun f s1 q => ?_)
  cases f with
  | next =>
    obtain ⟨σ', H', I', q⟩ := q
    exact h2.run pins s1 σ' H' D I' q
  | ret v => exact q
  | brk => exact q
  | cont => exact q
theorem mb_app {sts1 sts2 : List Stmt} {r1 r2 m1 m2 : List Nat} {a b : S} (ha : MB X W ks sts1 r1 m1 a) (hb : MB X W ks sts2 r2 m2 b) : MB X W ks (sts1 ++ sts2) (r1 ++ r2) (m1 ++ m2) (seq a b) := by
  obtain ⟨t1, h1, k1⟩ := ha
  obtain ⟨t2, h2, k2⟩ := hb
  refine ⟨_, pss_app h1 h2, fun B H env σ fp D r p => ?_⟩
  show t1 { D with nx := t2 D } σ H
  refine k1 B H env σ fp _ r ?_
  have wk : ∀ {o : O}, PostS X.K X.mg W ks σ B H fp (r1 ++ r2) (m1 ++ m2) o D → PostS X.K X.mg W ks σ B H fp r1 m1 o D := fun p => p.weak (fun i hi => List.mem_append_left _ hi) (fun i hi => List.mem_append_left _ hi)
  unfold seq at p
  cases z : a env with
  | nx e1 =>
    rw [z] at p
    intro σ1 B1 H1 fp1 q1 fr1 kk1
    exact k2 B1 H1 e1 σ1 fp1 D q1 ((PostS.later p fr1 kk1).weak (fun i hi => List.mem_append_right _ hi) fun i hi => hi)
  | rt t e => rw [z] at p; exact wk p
  | bk e => rw [z] at p; exact wk p
  | ct e => rw [z] at p; exact wk p
  | ex x e => rw [z] at p; exact wk p
  | no => rw [z] at p; exact p
end
section
variable {Z : Option Zx} {K : PySem.W.Frag} {B H : Hp} {env : Env} {σ : St} {fp : Fp}
theorem Rel.wipe1 {i : Nat} (r : Rel Z K B H env σ fp) (nz : freeZ Z i = true) : Rel Z K B H (env.set i none) σ (fp0 fp i []) := by
  refine ⟨r.xc.set nz, r.sub, by rw [List.length_set]; exact r.len, fun k => ?_, fun k => ?_, fun k l ne a ha hl => ?_, fun k a ha => ?_⟩
  · by_cases e : k = i
    · subst e
      rw [fp0_at]
      have : (env.set k none)[k]?.join = none := by
        by_cases h : k < env.length
        · exact join_set_at h
        · rw [List.getElem?_eq_none (by rw [List.length_set]; omega)]; rfl
      rw [this]; rfl
    · rw [join_set_ne e, fp0_ne e]; exact r.at_ k
  · by_cases e : k = i
    · subst e; rw [fp0_at]; exact List.nodup_nil
    · rw [fp0_ne e]; exact r.nd k
  · by_cases e : k = i
    · subst e; rw [fp0_at] at ha; cases ha
    · rw [fp0_ne e] at ha
      by_cases e2 : l = i
      · subst e2; rw [fp0_at] at hl; cases hl
      · rw [fp0_ne e2] at hl; exact r.dj k l ne a ha hl
  · by_cases e : k = i
    · subst e; rw [fp0_at] at ha; cases ha
    · rw [fp0_ne e] at ha; exact r.off k a ha
theorem Rel.put {j : Nat} {t : T} {v : V} {f : List Addr} {σ' : St} (r : Rel Z K B H env σ fp) (vr : VR K B H t v f) (nd : f.Nodup) (off : ∀ a ∈ f, B a = none) (new : ∀ a ∈ f, ∀ k, k ≠ j → a ∉ fp k) (hj : j < env.length) (nz : freeZ Z j = true) (sl : σ'.length = σ.length) (sj : σ'[j]?.join = some v) (sk : ∀ k, k ≠ j → σ'[k]?.join = σ[k]?.join) : Rel Z K B H (env.set j (some t)) σ' (fp0 fp j f) := by
  refine ⟨?_, r.sub, by rw [List.length_set, sl]; exact r.len, fun k => ?_, fun k => ?_, fun k l ne a ha hl => ?_, fun k a ha => ?_⟩
  · refine (r.xc.set nz).mono (Same.refl B) (fun _ _ q => q) fun z hz _ q => ?_
    subst hz
    rw [sk _ (freeZ_ne nz)]; exact q
  · by_cases e : k = j
    · subst e
      rw [join_set_at hj, fp0_at]
      exact ⟨v, sj, vr⟩
    · rw [join_set_ne e, fp0_ne e, sk k e]; exact r.at_ k
  · by_cases e : k = j
    · subst e; rw [fp0_at]; exact nd
    · rw [fp0_ne e]; exact r.nd k
  · by_cases e : k = j
    · subst e
      rw [fp0_at] at ha
      rw [fp0_ne (Ne.symm ne)] at hl
      exact new a ha l (Ne.symm ne) hl
    · rw [fp0_ne e] at ha
      by_cases e2 : l = j
      · subst e2; rw [fp0_at] at hl; exact new a hl k e ha
      · rw [fp0_ne e2] at hl; exact r.dj k l ne a ha hl
  · by_cases e : k = j
    · subst e; rw [fp0_at] at ha; exact off a ha
    · rw [fp0_ne e] at ha; exact r.off k a ha
end
theorem VRs.inner2 {K : PySem.W.Frag} {B H : Hp} {us : List T} : ∀ {ts : List T} {ws : List V} {f : List Addr} {q : Nat}, VRs K B H ts ws f → ts[q]? = some (.own us) →
    ∃ b xs g pre post, ws[q]? = some (.ref b) ∧ H b = some (.lst xs) ∧ VRs K B H us xs g ∧ f = pre ++ (b :: g) ++ post ∧
      ∀ B' H' t' g', Same B B' → (∀ c ∈ pre ++ post, ∀ o, H c = some o → H' c = some o) → VR K B' H' t' (.ref b) g' → VRs K B' H' (ts.set q t') ws (pre ++ g' ++ post)
  | [], ws, f, q, h, e => by simp at e
  | t :: ts, ws, f, 0, h, e => by
    simp at e
    subst e
    unfold VRs at h
    obtain ⟨v, r, f1, f2, rfl, rfl, h1, h2⟩ := h
    unfold VR at h1
    obtain ⟨b, xs, g, rfl, rfl, hb, rs⟩ := h1
    refine ⟨b, xs, g, [], f2, rfl, hb, rs, by simp, fun B' H' t' g' sB k vr => ?_⟩
    show VRs K B' H' (t' :: ts) _ _
    unfold VRs
    exact ⟨_, r, g', f2, rfl, by simp, vr, h2.mono sB fun c hc => k c (by simpa using hc)⟩
  | t :: ts, ws, f, q + 1, h, e => by
    unfold VRs at h
    obtain ⟨v, r, f1, f2, rfl, rfl, h1, h2⟩ := h
    obtain ⟨b, xs, g, pre, post, a1, a2, a3, a4, a5⟩ := VRs.inner2 (q := q) h2 (by simpa using e)
    refine ⟨b, xs, g, f1 ++ pre, post, by simpa using a1, a2, a3, by rw [a4]; simp [List.append_assoc], fun B' H' t' g' sB k vr => ?_⟩
    show VRs K B' H' (t :: ts.set q t') _ _
    unfold VRs
    refine ⟨v, r, f1, pre ++ g' ++ post, rfl, by simp [List.append_assoc], h1.mono sB fun c hc => k c (by simp [hc]), a5 B' H' t' g' sB (fun c hc => k c ?_) vr⟩
    simp only [List.mem_append] at hc ⊢
    grind
section
variable {X : Cx} {W : WZ} {ks : List Nat}
end
end Mir
namespace Mir
open PySem PySem.Spec L2
section
variable {X : Cx} {W : WZ} {z : Zx} {tab : XTab}
end
section
variable {X : Cx} {W : WZ}
end
end Mir
namespace Mir
open PySem PySem.Spec L2
section
variable {X : Cx} {W : WZ} {K : PySem.W.Frag} {B H : Hp}
end
end Mir
namespace Mir
open PySem PySem.Spec L2 PyProof.Rows
section
variable {X : Cx} {W : WZ}
end
end Mir
namespace L2N
open PySem PySem.Spec PyProof.Rows L2
inductive HdsN (X : Cx) (n : Str) : List ExceptHandler → List (Value × (Addr → Value → Option Addr → TS)) → Prop
  | nil : HdsN X n [] []
  | cons {x : Str} {c : Value} {ts : Addr → Value → Option Addr → TS} {b₀ : Stmt} {suite : List Stmt} {np pos' : Pos} {hds : List ExceptHandler} {l : List (Value × (Addr → Value → Option Addr → TS))} (hc : Names X x c)
      (hsu : ∀ (a : Addr) (oe : Obj) (cls : Value) (d : Option Addr) (pn : List (Addr × Obj)), Zn cls d oe → (∃ vs, oe.data = .fields vs) → PSs (X.suite a ((a, oe) :: pn)) (b₀ :: suite) (ts a cls d)) (r : HdsN X n hds l) :
      HdsN X n (.ExceptHandler (some (.Name x np)) (some n) (b₀ :: suite) pos' :: hds) ((c, ts) :: l)
section
variable {X : Cx} {n : Str} {i : Nat} {body : List Stmt} {h₀ : ExceptHandler} {hds : List ExceptHandler} {l : List (Value × (Addr → Value → Option Addr → TS))} {pos : Pos} {tb : WX → TS} {Wout : WX}
end
end L2N
namespace Mir
open PySem PySem.Spec L2
end Mir
namespace Mir
open PySem PySem.Spec L2
section
variable {X : Cx} {W : WZ}
end
end Mir
namespace Mir
open PySem PySem.Spec L2
section
variable {X : Cx} {W : WZ} {ks : List Nat}
def tupOE (m : A) : E := fun e => (m e).bind fun ts e1 => if ts.length ≤ sizeLine ∧ noOwns ts = false then .ok (.otp ts) e1 else .no
theorem me_tupO {es : List Expr} {ms : List Nat} {m : A} {k : Nat} {pos : Pos} (h : MA X W es [] ms m) : ME X W (.Tuple es k pos) [] ms (tupOE m) := by
  obtain ⟨t, ht, hm⟩ := h
  refine ⟨_, pe_tupX ht, fun B H env σ fp Q r p => ?_⟩
  show t σ H fun xs H1 => xs.length ≤ sizeLine ∧ NewT Q H1 xs
  refine hm B H env σ fp _ r ?_
  unfold tupOE at p
  cases z : m env with
  | no => rw [z] at p; exact p
  | ex x e1 => rw [z] at p; exact p
  | ok ts e1 =>
    rw [z] at p
    intro vs B1 H1 fp1 f r1 fr1 g
    replace p : PostE X.K X.mg W σ B H fp [] ms (if ts.length ≤ sizeLine ∧ noOwns ts = false then .ok (.otp ts) e1 else .no) Q := p
    by_cases hl : ts.length ≤ sizeLine ∧ noOwns ts = false
    · rw [if_pos hl] at p
      refine ⟨by rw [g.vr.length]; exact hl.1, fun a ob ha oc od => ?_⟩
      have new := nil_srcs g.new
      have hB : B1 a = none := by
        cases q : B1 a with
        | none => rfl
        | some o => rw [r1.sub a o q] at ha; cases ha
      have al : Alo B1 H1 (upd B1 a (.frz ob (.tup vs))) (upd H1 a (.frz ob (.tup vs))) := ⟨upd_sameH hB, upd_sameH ha, fun c hc => by
        by_cases e : c = a
        · subst e; exact .inr ha
        · rw [upd_ne e] at hc; exact .inl hc, fun c o hc => by
        by_cases e : c = a
        · subst e; rw [upd_same] at hc ⊢; exact hc
        · rw [upd_ne e] at hc ⊢; exact r1.sub c o hc⟩
      have na : a ∉ f := fun z => by
        obtain ⟨o, ho⟩ := g.there a z
        rw [ha] at ho; cases ho
      have nf : f ≠ [] := fun z => by
        have vr := g.vr
        rw [z] at vr
        rw [vr.frozen_no] at hl
        exact absurd hl.2 (by decide)
      refine p (.ref a) _ _ fp1 f (r1.alo al) ?_ ⟨?_, g.nd rfl, fun c hc => ?_, fun c hc => .inl (new c hc)⟩
      · have := fr1.trans (al.fr (ms := []) (fp := fp1))
        rw [List.append_nil] at this
        exact this
      · unfold VR
        exact ⟨nf, a, vs, rfl, .inl ⟨ob, oc, od, upd_same⟩, VRs.mono al.b g.vr fun c hc o ho => al.h c o ho⟩
      · rw [upd_ne fun e => na (by rw [← e]; exact hc)]
        exact g.off c hc
    · rw [if_neg hl] at p; exact False.elim p
def otpAt (e : Env) (i : Nat) : Option (List T) := match e[i]?.join with
  | some (.otp ts) => some ts
  | _ => none
theorem otpAt_of {e : Env} {i : Nat} {ts : List T} (h : otpAt e i = some ts) : e[i]?.join = some (.otp ts) := by
  unfold otpAt at h
  cases z : e[i]?.join with
  | none => rw [z] at h; cases h
  | some t =>
    rw [z] at h
    cases t <;> first | (cases h; rfl) | cases h
def spendS (i j : Nat) (n : Int) (b : S) : S := fun e => match otpAt e i with
  | some ts => (match inAt ts (.int n) with
    | some p => if j < e.length then (match b ((e.set i none).set j (some (.own p.2))) with
      | .nx e3 => .nx (e3.set j none)
      | _ => .no) else .no
    | none => .no)
  | none => .no
theorem mb_spendA {st : Stmt} {sts : List Stmt} {x : Expr} {i j : Nat} {n : Int} {r1 m1 : List Nat} {b : S} (ps : ∀ {te : TE}, PE X x te → PS X st (tAsg te (gName j))) (pe : PE X x (tOp (rIx X.K) (tVar i) (tC (.int n)))) (hb : MB X W ks sts r1 m1 b) (nj : j ∉ ks) (ij : i ≠ j) (ni : freeZ W.z i = true) (nz : freeZ W.z j = true) :
    MB X W ks (st :: sts) [] (m1 ++ [i, j]) (spendS i j n b) := by
  obtain ⟨tb, hb1, hb2⟩ := hb
  refine ⟨_, pss_cons (ps pe) hb1, fun B H env σ fp D r p => ?_⟩
  show tVar i σ H fun x H1 => rIx X.K x (.int n) H1 fun v H2 => tb D (σ.set j (some v)) H2
  unfold spendS at p
  cases z0 : otpAt env i with
  | none => rw [z0] at p; exact p.elim
  | some ts =>
    rw [z0] at p
    dsimp only at p
    cases z3 : inAt ts (.int n) with
    | none => rw [z3] at p; exact p.elim
    | some pr =>
      rw [z3] at p
      dsimp only at p
      by_cases hj : j < env.length
      · rw [if_pos hj] at p
        have e0 := otpAt_of z0
        have q0 := r.at_ i
        rw [e0] at q0
        obtain ⟨v0, ev, vr0⟩ := q0
        unfold VR at vr0
        obtain ⟨_, a1, ws, rfl, sx, rs1⟩ := vr0
        have ev2 : σ[i]? = some (some (.ref a1)) := by
          cases z : σ[i]? with
          | none => rw [z] at ev; cases ev
          | some u => rw [z] at ev; exact congrArg some ev
        refine ⟨.ref a1, ev2, ?_⟩
        obtain ⟨n', en, y4, y5⟩ := inAt_ok z3
        injection en with en
        subst en
        obtain ⟨c0, xs, g, pre, post, i1, i2, i3, i4, i5⟩ := rs1.inner2 y5
        have hat : L2.atI ws n = some (.ref c0) := by
          unfold L2.atI
          rw [rs1.length, y4]
          exact i1
        refine .inr (.inl ⟨a1, ws, n, .ref c0, rfl, rfl, same_sqT r.sub sx, hat, ?_⟩)
        have nk := r.nd i
        rw [i4] at nk
        obtain ⟨n1, n2, n3⟩ := List.nodup_append.mp nk
        obtain ⟨n4, n5, n6⟩ := List.nodup_append.mp n1
        have gI : ∀ c ∈ c0 :: g, c ∈ fp i := fun c hc => by
          rw [i4]; exact List.mem_append_left _ (List.mem_append_right _ hc)
        have rw1 := r.wipe1 (i := i) ni
        have vrG : VR X.K B H (.own pr.2) (.ref c0) (c0 :: g) := by
          unfold VR
          exact ⟨c0, xs, g, rfl, rfl, i2, i3⟩
        have lj : j < (env.set i none).length := by rw [List.length_set]; exact hj
        have ljs : j < σ.length := by rw [← r.len]; exact hj
        have sj : (σ.set j (some (V.ref c0)))[j]?.join = some (.ref c0) := join_set_at ljs
        have r2 := rw1.put (j := j) (σ' := σ.set j (some (.ref c0))) vrG n5 (fun c hc => r.off i c (gI c hc)) (fun c hc k0 hk0 hx => by
          by_cases e : k0 = i
          · subst e; rw [fp0_at] at hx; cases hx
          · rw [fp0_ne e] at hx
            exact r.dj i k0 (Ne.symm e) c (gI c hc) hx) lj nz (by rw [List.length_set]) sj fun k0 hk0 => join_set_ne hk0
        refine hb2 B H _ _ _ D r2 ?_
        have fpi : ∀ k0, k0 ≠ i → k0 ≠ j → fp0 (fp0 fp i []) j (c0 :: g) k0 = fp k0 := fun k0 h1 h2 => by rw [fp0_ne h2, fp0_ne h1]
        have fpj : fp0 (fp0 fp i []) j (c0 :: g) j = c0 :: g := fp0_at
        have fpi0 : fp0 (fp0 fp i []) j (c0 :: g) i = [] := by rw [fp0_ne ij, fp0_at]
        cases z4 : b ((env.set i none).set j (some (.own pr.2))) with
        | nx e3 =>
          rw [z4] at p
          intro σ3 B3 H3 fp3 r3 fr3 kk3
          have rA := r3.wipe1 (i := j) nz
          refine p σ3 B3 H3 _ rA ?_ fun c hc => ?_
          · refine ⟨fr3.b, fun c o h nn => ?_, fr3.grow, fun c h => ?_, fun k0 hk0 => ?_, fun k0 c hc => ?_⟩
            · refine fr3.keep c o h fun k0 hk0 hx => ?_
              by_cases e2 : k0 = j
              · subst e2; rw [fpj] at hx; exact nn i (List.mem_append_right _ (List.mem_cons_self ..)) (gI c hx)
              · by_cases e1' : k0 = i
                · subst e1'; rw [fpi0] at hx; cases hx
                · rw [fpi k0 e1' e2] at hx
                  exact nn k0 (List.mem_append_left _ hk0) hx
            · rcases fr3.fresh c h with q | q | ⟨k0, hk0, q⟩
              · exact .inl q
              · exact .inr (.inl q)
              · by_cases e2 : k0 = j
                · subst e2
                  rw [fpj] at q
                  exact .inr (.inr ⟨i, List.mem_append_right _ (List.mem_cons_self ..), gI c q⟩)
                · by_cases e1' : k0 = i
                  · subst e1'; rw [fpi0] at q; cases q
                  · rw [fpi k0 e1' e2] at q
                    exact .inr (.inr ⟨k0, List.mem_append_left _ hk0, q⟩)
            · have e1' : k0 ≠ i := fun e => hk0 (by rw [e]; exact List.mem_append_right _ (List.mem_cons_self ..))
              have e2 : k0 ≠ j := fun e => hk0 (by rw [e]; exact List.mem_append_right _ (List.mem_cons_of_mem _ (List.mem_cons_self ..)))
              rw [fp0_ne e2, fr3.fps k0 fun q => hk0 (List.mem_append_left _ q), fpi k0 e1' e2]
            · by_cases e2 : k0 = j
              · subst e2; rw [fp0_at] at hc; cases hc
              · rw [fp0_ne e2] at hc
                rcases fr3.fpm k0 c hc with q | q
                · by_cases e1' : k0 = i
                  · subst e1'; rw [fpi0] at q; cases q
                  · rw [fpi k0 e1' e2] at q; exact .inl q
                · exact .inr q
          · rw [kk3 c hc]
            exact join_set_ne fun e => nj (by rw [← e]; exact hc)
        | rt t e => rw [z4] at p; exact p.elim
        | bk e => rw [z4] at p; exact p.elim
        | ct e => rw [z4] at p; exact p.elim
        | ex x e => rw [z4] at p; exact p.elim
        | no => rw [z4] at p; exact p.elim
      · rw [if_neg hj] at p; exact p.elim
theorem mb_spend {st : Stmt} {rest : List Stmt} (m : Nat) {x : Expr} {i j : Nat} {n : Int} {r1 r2 m1 m3 : List Nat} {b c : S} (ps : ∀ {te : TE}, PE X x te → PS X st (tAsg te (gName j))) (pe : PE X x (tOp (rIx X.K) (tVar i) (tC (.int n)))) (hb : MB X W ks (rest.take m) r1 m1 b) (hc : MB X W ks (rest.drop m) r2 m3 c) (nj : j ∉ ks) (ij : i ≠ j) (ni : freeZ W.z i = true) (nz : freeZ W.z j = true) :
    MB X W ks (st :: rest) ([] ++ r2) (m1 ++ [i, j] ++ m3) (seq (spendS i j n b) c) := by
  have h := mb_app (mb_spendA ps pe hb nj ij ni nz) hc
  rw [List.cons_append, List.take_append_drop] at h
  exact h
end
end Mir
namespace Mir
open PySem PySem.Spec L2
structure FnY (P : Program) (w : World) (K : PySem.W.Frag) (mg : Str → Option Value) (base : Heap) (k : Nat) (f : Addr) (fd : FuncData) (ps : List Str) (os : List Nat) (m : F) : Prop where
  run : ∀ (A : Around) (outer : List PySem.Env) (s : Shared) (H : Hp) (args : Args) (us : List Value) (vs : List V) (Q : VK) (p : Addr × Obj), L2H.RoomH k A → A.guards = some [] → L2H.Hot1 A p → L2H.PinOk outer H s p → Env0 P w K mg base A outer s H → BindsTo s fd args (ps.zip us) → Vals vs us →
    PromM K mg ps.length os m vs H Q (fun _ _ _ => False) → codeAny (model P w) A (.call (.ref f) args) (CR (L2N.CX P w) outer P w H s Q (fun _ _ _ => False)) s
section
variable {P : Program} {w : World} {K : PySem.W.Frag} {mg : Str → Option Value} {base : Heap} {k : Nat} {f : Addr} {x qual : Str} {params : Arguments} {body : List Stmt} {scope : Scope} {dvs : List V} {kws : List (Str × V)} {fd : FuncData} {N ps : List Str} {os : List Nat} {b : S}
theorem fny_of (F : FunD K x qual params body scope dvs kws f fd) (S : FnScope N ps scope) (ho : ∀ i ∈ os, i < ps.length) (hl : ps.length ≤ N.length)
    (hbody : ∀ (cdv : Value) (A : Around) (outer : List PySem.Env) (s : Shared) (H : Hp) (p : Addr × Obj), L2H.RoomH k (A.deeper (PyProof.Rows.envOfC qual scope s.heap.objs.size f cdv)) → (A.deeper (PyProof.Rows.envOfC qual scope s.heap.objs.size f cdv)).guards = some [] → L2H.HotC (L2H.cxH (L2N.CX P w) P w K mg base N qual scope f cdv A outer s H (fun _ _ _ => False) p) →
      ∃ rs ms, MB (L2H.cxH (L2N.CX P w) P w K mg base N qual scope f cdv A outer s H (fun _ _ _ => False) p) ⟨fun _ _ _ _ => False, none⟩ os body rs ms b ∧ ∀ i ∈ rs, i ∉ os) : FnY P w K mg base (k + 1) f fd ps os (fnM N.length os b) := by
  obtain ⟨oc, od, dV, kV, doc, pm, an, cdv, ct, osl, rfl, lk, hcd, _, _⟩ := F.ex
  refine ⟨fun A outer s H args us vs Q p hr hg hot hpin e0 hb rv hsp => ?_⟩
  obtain ⟨B, ts, fp, hn, rel, h0, post⟩ := hsp
  have hlen : vs.length = ps.length := hn
  have KX : K.In s.heap := e0.mod.kin.keeps fun b o e => (e0.bs b o e).1
  have lim : s.heap.NoLimit := e0.mod.nolimit.keeps fun b o e => (e0.bs b o e).1
  have kinds : ∀ y ∈ ps.zip us, scope.names.lookup y.1 = some .local ∨ (scope.names.lookup y.1 = some .cell ∧ ((cellsFrom (s.heap.objs.size + 1) scope.names []).lookup y.1).isSome = true) := fun y hy => by
    obtain ⟨n, v⟩ := y
    rcases S.par n (List.of_mem_zip hy).1 with q | q
    · exact Or.inl q
    · exact Or.inr ⟨q, PySem.W.cellsFrom_some _ _ _ (Or.inl q)⟩
  refine codeAny_call_function hr.depth (KX _ _ lk) rfl S.co S.gen rfl (PySem.W.codeRec_of KX hcd) (hb _ _ _ _ ?_)
  refine wpAny_newFunctionEnv_cells S.kind kinds fun env he s1 ic => ?_
  subst he
  refine ⟨lim.keeps ic.toInCall.keep, codeAny_func ?_⟩
  obtain ⟨rs, ms, ⟨t, ht, hm⟩, hrs⟩ := hbody cdv A outer s H p (hr.deeper _) hg ⟨p, hot, List.mem_cons_self ..⟩
  have I : Inv (L2H.cxH (L2N.CX P w) P w K mg base N qual scope f cdv A outer s H (fun _ _ _ => False) p) [] (L2.start N vs) H s1 := L2H.inv_startH S hpin e0 hlen rv ic
  have rel0 := rel.enter (N := N) (by rw [hlen]; exact hl)
  rw [List.length_map] at rel0
  have ho' : ∀ i ∈ os, i < vs.length := fun i hi => by rw [hlen]; exact ho i hi
  have fin : ∀ {s' : Shared} {σ' : St} {H' : Hp} {v : V} {u : Value}, Inv (L2H.cxH (L2N.CX P w) P w K mg base N qual scope f cdv A outer s H (fun _ _ _ => False) p) [] σ' H' s' → RelV v u → Q v H' → CE outer P w H s Q u s' :=
    fun {s' σ' H' v u} J rv q => ⟨v, H', J.os, J.bare, J.base, J.hok, rv, q⟩
  refine wpAny_mono (ht.run [] s1 (L2.start N vs) H { nx := fun _ H' => Q .non H', rt := Q } I (hm B H _ _ fp _ rel0 ?_)) (fun fl s' hs => ?_) fun e s' hs => hs
  · unfold fnM outM at post
    show PostS K mg ⟨fun _ _ _ _ => False, none⟩ os (L2.start N vs) B H fp rs ms (b (ts.map some ++ List.replicate (N.length - ts.length) none)) _
    cases z : b (ts.map some ++ List.replicate (N.length - ts.length) none) with
    | nx e1 =>
      rw [z] at post
      replace post : PostF none K mg os B H fp (ts.map some) vs (.of (outsO e1 os) (.ok .non)) Q (fun _ _ _ => False) := post
      cases z2 : outsO e1 os with
      | none => rw [z2] at post; exact post.elim
      | some outs =>
        rw [z2] at post
        intro σ' B' H' fp' r' fr kk
        obtain ⟨r2, f2⟩ := rel.leave h0 ho' r' fr kk z2
        exact post .non B' H' _ [] r2 f2 (.pure vr_non)
    | rt t e1 =>
      rw [z] at post
      replace post : PostF none K mg os B H fp (ts.map some) vs (.of (outsO e1 os) (.ok t)) Q (fun _ _ _ => False) := post
      cases z2 : outsO e1 os with
      | none => rw [z2] at post; exact post.elim
      | some outs =>
        rw [z2] at post
        intro v σ' B' H' fp' g r' fr kk got
        obtain ⟨r2, f2⟩ := rel.leave h0 ho' r' fr kk z2
        exact post v B' H' _ g r2 f2 (Got.leave h0 r' fr hrs got)
    | ex x e1 =>
      rw [z] at post
      replace post : PostF none K mg os B H fp (ts.map some) vs (.of (outsO e1 os) (.ex x)) Q (fun _ _ _ => False) := post
      cases z2 : outsO e1 os with
      | none => rw [z2] at post; exact post.elim
      | some outs =>
        rw [z2] at post
        intro cls d σ' B' H' fp' r' fr kk ex
        obtain ⟨r2, f2⟩ := rel.leave h0 ho' r' fr kk z2
        exact post cls d B' H' _ r2 f2 ex
    | bk e1 => rw [z] at post; exact post.elim
    | ct e1 => rw [z] at post; exact post.elim
    | no => rw [z] at post; exact post.elim
  · cases fl with
    | ret u =>
      obtain ⟨v, σ', H', J, rv, q⟩ := hs
      exact fin J rv q
    | next =>
      obtain ⟨σ', H', J, q⟩ := hs
      exact fin (v := V.non) (u := Value.none) J rfl q
    | brk =>
      obtain ⟨_, _, _, q⟩ := hs
      exact q.elim
    | cont =>
      obtain ⟨_, _, _, q⟩ := hs
      exact q.elim
end
structure CalY (P : Program) (w : World) (K : PySem.W.Frag) (mg : Str → Option Value) (base : Heap) (st : Stmt) (k : Nat) (x : Str) (ps : List Str) (os : List Nat) (m : F) : Prop where
  ex : ∃ f fd, FnY P w K mg base k f fd ps os m ∧ mg x = some (.ref f) ∧ ∃ n : Str, FunD K n n (defArgs st) (defBody st) (defScope st) [] [] f fd
theorem me_callY {X : Cx} {W : WZ} {z : Zx} {st : Stmt} {k j : Nat} {x : Str} {ps : List Str} {os : List Nat} {m : F} {as : List AE} {srcs ms : List Nat} {p pos : Pos} {e : Expr} {es : List Expr} (hz : W.z = some z) (hw : W.w = fun _ _ _ _ => False) (P : PinZ X z) (c : CalY X.prog X.w X.K X.mg X.base st j x ps os m)
    (hb : ∀ (nm : Str) (kV doc pm : Value) (an : Option Addr) (cdv ct : Value) (us : List Value), us.length = ps.length → bindArgs (PySem.W.fnOf nm nm (defArgs st) (defBody st) (defScope st) .none kV doc pm an cdv ct) ⟨us, []⟩ = pure (ps.zip us))
    (hr : L2H.RoomH k X.A) (hj : j ≤ k) (hgd : X.A.guards = some []) (hg : Gl X x) (ha : MX X W (e :: es) srcs ms as) (ho : os = (links 0 as).map (·.1)) (hn : as.length = ps.length) (dj : ∀ i ∈ srcs, i ∉ (links 0 as).map (·.2)) (nd : ((links 0 as).map (·.2)).Nodup)
    (hdb : (x == ("__debug__" : Str)) = false := by decide) (he : starEach (e :: es) X.env = (false, eval e X.env) :: starEach es X.env := by rfl) (hpl : (backTo pos (starEach es X.env)).any (·.1) = false := by rfl) :
    ME X W (.Call (.Name x p) (e :: es) [] pos) [] (ms ++ (links 0 as).map (·.2)) (callE m [] as) := by
  obtain ⟨f, fd, F, hm, nm, D⟩ := c.ex
  obtain ⟨t, ht, hm2⟩ := ha
  obtain ⟨oe, ws, hp, hzc, hdt, hct⟩ := P.ex
  have hbn : Binds X.K fd ps [] := D.bindsN (hb nm)
  refine ⟨fun σ H Q => t σ H fun vs H1 => vs.length = ps.length ∧ PromM X.K X.mg ps.length os m vs H1 Q (fun _ _ _ => False), ⟨fun pins s σ H Q I h => ?_⟩, fun B H env σ fp Q r pp => ?_⟩
  · refine wpAny_Call_Name_kw (ld_glob I hg hm (PySem.W.callWith_K (h₀ := X.base) I.ok.mod.kin D.kp (thn (ht.run pos pins s σ H _ I h) fun us s1 hh => ?_) he hpl) hdb)
    obtain ⟨vs, H1, I1, rv, hl, q⟩ := hh
    refine ⟨I1.kIn, ?_⟩
    have bnd := hbn s1 us I1.kIn (by rw [List.append_nil, ← hl]; exact rv.length.symm)
    rw [List.append_nil] at bnd
    have Q1 := I1.pin (z.a, oe) (List.mem_append_left _ hp)
    have hpin : L2H.PinOk X.stack H1 s1 (z.a, oe) := ⟨Q1.1, Q1.2.1, fun hmm => (List.mem_cons.mp (I1.stkSub _ hmm)).elim Q1.2.2.1 Q1.2.2.2.1, Q1.2.2.2.2⟩
    refine wpAny_call (codeAny_mono (F.run X.A X.stack s1 H1 ⟨us, []⟩ us vs Q (z.a, oe) ⟨by have := hr.dp; omega, by have := hr.un; omega⟩ hgd ⟨P.hd, ws, hdt, hct⟩ hpin I1.env0 bnd rv q) fun rr s2 hq => ?_)
    cases rr with
    | error er =>
      obtain ⟨_, _, _, _, _, _, _, _, _, _, _, _, zz⟩ := hq
      exact zz.elim
    | ok fl2 => cases fl2 with
      | ret u => exact I1.after hq
      | next => exact hq.elim
      | brk => exact hq.elim
      | cont => exact hq.elim
  · refine hm2 B H env σ fp _ r ?_
    unfold callE at pp
    cases zz : evalAs as env with
    | no => rw [zz] at pp; exact pp
    | ex y e1 => rw [zz] at pp; exact fun cls d B' H' fp' r' fr => pp cls d B' H' fp' r' (fr.weak fun i hi => List.mem_append_left _ hi)
    | ok xs e1 =>
      rw [zz] at pp
      intro vs B1 H1 fp1 g r1 fr1 gx
      have lx : vs.length = as.length := gx.vr.len
      refine ⟨by rw [lx]; exact hn, ?_⟩
      have pb := call_reads (m := m) (dts := []) (dvs := []) (n := vs.length) r1 fr1 gx (fun B H => by unfold VRs; exact ⟨rfl, rfl⟩) (by rw [List.append_nil]) dj nd pp
      rw [List.append_nil] at pb
      subst ho
      rw [← hn, ← lx]
      obtain ⟨B2, ts, fq, a1, a2, a3, a4, a5⟩ := pb
      rw [hw] at a5
      exact ⟨B2, ts, fq, a2, a3, a4, a5⟩
section
variable {X : Cx} {W : WZ}
def MIH (X : Cx) (W : WZ) (tg iter : Expr) (srcs ms : List Nat) (m : A) : Prop := ∃ wi : TI, L2H.PIH X tg iter wi ∧ ∀ B H env σ fp P, Rel W.z X.K B H env σ fp → PostI X.K X.mg W σ B H fp srcs ms (m env) P → wi σ H P
theorem mi_rng1H {tg e : Expr} {es : List Expr} {srcs ms : List Nat} {m : A} (pi : ∀ {ta : TA}, PA X es ta → L2H.PIH X tg e (iRng1 ta)) (h : MA X W es srcs ms m) (one : ∀ B H env σ fp, Rel W.z X.K B H env σ fp → ∀ ts e1, m env = .ok ts e1 → ts.length = 1) : MIH X W tg e [] ms (rng m) := by
  obtain ⟨t, ht, hm⟩ := h
  refine ⟨_, pi ht, fun B H env σ fp P r p => ?_⟩
  refine hm B H env σ fp _ r ?_
  have o1 := one B H env σ fp r
  unfold rng at p
  cases z : m env with
  | no => rw [z] at p; exact p
  | ex x e1 => rw [z] at p; exact p
  | ok ts e1 =>
    rw [z] at p
    intro vs B1 H1 fp1 f r1 fr1 g1
    replace p : PostI X.K X.mg W σ B H fp [] ms (optR (rngT ts) e1) P := p
    have l1 := o1 ts e1 z
    match ts, l1, p, g1 with
    | [u], _, p, g1 =>
      cases u with
      | int j =>
        replace p : PostI X.K X.mg W σ B H fp [] ms (optR (if j.natAbs < 4611686018427387904 then some ((List.range j.toNat).map fun k => .int (0 + (k : Nat))) else none) e1) P := p
        by_cases c : j.natAbs < 4611686018427387904
        · rw [if_pos c] at p
          exact ⟨j, vrs_ints1 g1.vr, by omega, by omega, p _ B1 H1 fp1 _ r1 fr1 walk_rng trivial fun _ _ _ _ _ _ => trivial⟩
        · rw [if_neg c] at p; exact False.elim p
      | _ => exact False.elim p
theorem ms_forH {tg iter : Expr} {body : List Stmt} {ks srcs m0 m1 rs m2 : List Nat} {it : A} {f : T → Env → Option Env} {b : S} {pos : Pos} (hp : PassesOwn (model X.prog X.w) X.A X.env X.xe) (hc : L2H.HotC X) (hi : MIH X W tg iter srcs m0 it) (hg : MG W.z X tg m1 f) (hb : MB X W ks body rs m2 b)
    (d : ∀ i ∈ srcs, i ∉ m1 ++ m2) (nk : ∀ i ∈ m1, i ∉ ks) (hf : ∀ x, foldedSetIterable iter X.env x = pure x := by intro _; rfl) : MS X W ks (.For tg iter body [] pos) rs (m0 ++ (m1 ++ m2)) (forS it f b) := by
  obtain ⟨wi, h0, k0⟩ := hi
  obtain ⟨g, h1, k1⟩ := hg
  obtain ⟨t, h2, k2⟩ := hb
  refine ⟨_, L2H.ps_forH hp hc h0 h1 h2 hf, fun B H env σ fp D r p => ?_⟩
  refine k0 B H env σ fp _ r ?_
  unfold forS at p
  cases z : it env with
  | no => rw [z] at p; exact p
  | ex x e1 => rw [z] at p; exact fun cls d B' H' fp' r' fr => p cls d σ B' H' fp' r' (fr.weak fun i hi => List.mem_append_left _ hi) .refl
  | ok its e1 =>
    rw [z] at p
    intro J B1 H1 fp1 live r1 fr1 wk lv kp
    replace p : PostS X.K X.mg W ks σ B1 H1 fp1 rs (m1 ++ m2) (forL f b its e1) D := PostS.later p fr1 .refl
    refine ⟨fun i m σ2 H => m = its.length - i ∧ i ≤ its.length ∧ ∃ B2 e2 fp2, Rel W.z X.K B2 H e2 σ2 fp2 ∧ Fr (m1 ++ m2) B1 H1 fp1 B2 H fp2 ∧ Keep ks σ σ2 ∧ forL f b its e1 = forL f b (its.drop i) e2, ⟨its.length, by simp, Nat.zero_le _, B1, e1, fp1, r1, .refl, .refl, by rw [List.drop_zero]⟩, ?_⟩
    rintro i m σ2 H ⟨rfl, hi, B2, e2, fp2, r2, fr2, kk2, eq⟩
    have lv2 := kp _ B2 H fp2 d fr2
    by_cases hlt : i < its.length
    · refine .inr ⟨wk.go B2 H i r2.sub lv2 hlt, fun σ' H' => ∃ B3 e3 fp3, Rel W.z X.K B3 H' e3 σ' fp3 ∧ Fr (m1 ++ m2) B1 H1 fp1 B3 H' fp3 ∧ Keep ks σ σ' ∧ forL f b its e1 = forL f b (its.drop (i + 1)) e3, fun σ' H' ⟨B3, e3, fp3, r3, fr3, kk3, eq3⟩ => ⟨its.length - (i + 1), by omega, rfl, by omega, B3, e3, fp3, r3, fr3, kk3, eq3⟩, fun x H' y => ?_⟩
      obtain ⟨B3, al, vr⟩ := wk.yld B2 H i its[i] x H' r2.sub lv2 (List.getElem?_eq_getElem hlt) y
      have r3 := r2.alo al
      have fr3 : Fr (m1 ++ m2) B1 H1 fp1 B3 H' fp2 := by
        have := fr2.trans (al.fr (ms := []) (fp := fp2))
        rw [List.append_nil] at this
        exact this
      have ed : its.drop i = its[i] :: its.drop (i + 1) := List.drop_eq_getElem_cons hlt
      rw [ed] at eq
      refine k1 B3 H' e2 σ2 fp2 its[i] x _ r3 vr ?_
      have eq' : forL f b its e1 = (match f its[i] e2 with
        | none => .no
        | some e1 => match b e1 with
          | .nx e2 => forL f b (its.drop (i + 1)) e2
          | .ct e2 => forL f b (its.drop (i + 1)) e2
          | .bk e2 => .nx e2
          | o => o) := eq
      cases z1 : f its[i] e2 with
      | none => rw [z1] at eq'; dsimp only at eq'; rw [eq'] at p; exact p
      | some e3 =>
        rw [z1] at eq'
        dsimp only at eq'
        intro σ4 fp4 r4 fr4 el4
        have kk4 : Keep ks σ σ4 := kk2.trans fun j hj => el4.2 j fun z => nk j z hj
        have fr5 : Fr (m1 ++ m2) B1 H1 fp1 B3 H' fp4 := (fr3.trans fr4).weak fun j hj => by
          rcases List.mem_append.mp hj with q | q
          · exact q
          · exact List.mem_append_left _ q
        refine k2 B3 H' e3 σ4 fp4 _ r4 ?_
        have tr : ∀ {B' H' : Hp} {fp' : Fp} {Hx : Hp}, Fr m2 B3 Hx fp4 B' H' fp' → Fr (m1 ++ m2) B1 H1 fp1 B3 Hx fp4 → Fr (m1 ++ m2) B1 H1 fp1 B' H' fp' := fun a c => (c.trans a).weak fun j hj => by
          rcases List.mem_append.mp hj with q | q
          · exact q
          · exact List.mem_append_right _ q
        cases z2 : b e3 with
        | nx e4 =>
          rw [z2] at eq'
          exact fun σ' B' H2 fp' r' fr' kk' => ⟨B', e4, fp', r', tr fr' fr5, kk4.trans kk', eq'⟩
        | ct e4 =>
          rw [z2] at eq'
          exact fun σ' B' H2 fp' r' fr' kk' => ⟨B', e4, fp', r', tr fr' fr5, kk4.trans kk', eq'⟩
        | bk e4 =>
          rw [z2] at eq'
          dsimp only at eq'
          rw [eq'] at p
          exact fun σ' B' H2 fp' r' fr' kk' => p σ' B' H2 fp' r' (tr fr' fr5) (kk4.trans kk')
        | rt u e4 =>
          rw [z2] at eq'
          dsimp only at eq'
          rw [eq'] at p
          exact fun v σ' B' H2 fp' k r' fr' kk' g => p v σ' B' H2 fp' k r' (tr fr' fr5) (kk4.trans kk') ⟨g.vr, g.nd, g.off, new_pre g.new fr5⟩
        | ex x e4 =>
          rw [z2] at eq'
          dsimp only at eq'
          rw [eq'] at p
          exact fun cls dd σ' B' H2 fp' r' fr' kk' => p cls dd σ' B' H2 fp' r' (tr fr' fr5) (kk4.trans kk')
        | no =>
          rw [z2] at eq'
          dsimp only at eq'
          rw [eq'] at p
          exact p
    · have e : i = its.length := by omega
      subst e
      rw [List.drop_length] at eq
      have eq' : forL f b its e1 = .nx e2 := eq
      rw [eq'] at p
      exact .inl ⟨wk.stop B2 H r2.sub lv2, p σ2 B2 H fp2 r2 fr2 kk2⟩
theorem mi_range1H {tg e a : Expr} {srcs ms : List Nat} {m : E} (pi : ∀ {ta : TA}, PA X [a] ta → L2H.PIH X tg e (iRng1 ta)) (h : ME X W a srcs ms m) (hs : starEach [a] X.env = (false, eval a X.env) :: starEach [] X.env := by rfl) : MIH X W tg e [] (ms ++ []) (rng (consA m nilA)) :=
  mi_rng1H pi (ma_cons h ma_nil (fun _ _ z => nomatch z) hs) fun _ _ _ _ _ _ _ _ h => consA_len1 h
end
end Mir
namespace Mir
open PySem PySem.Spec L2
theorem e_add_i {i j : Int} : addT (.int i) (.int j) = some (.int (i + j)) := rfl
theorem e_sub_i {i j : Int} : subT (.int i) (.int j) = some (.int (i - j)) := rfl
theorem e_pow {i j : Int} : powT (.int i) (.int j) = if 0 ≤ j ∧ j.natAbs ≤ 1000000 ∧ i.natAbs < 18446744073709551616 then some (.int (i ^ j.toNat)) else none := rfl
def MulOk (i j : Int) : Prop := i.natAbs < 18446744073709551616 ∨ j.natAbs < 18446744073709551616
def RngOk (j : Int) : Prop := j.natAbs < 4611686018427387904
theorem optP_if {α : Type} {c : Prop} {inst : Decidable c} {a : α} {Q : α → Prop} : OptP (if c then some a else none) Q = (c ∧ Q a) := by
  rw [optP_ite, optP_none, ite_false_and]; rfl
theorem o_mul {i j : Int} {Q : T → Prop} : OptP (mulT (.int i) (.int j)) Q = (MulOk i j ∧ Q (.int (i * j))) := optP_if
theorem o_mod {i j : Int} {Q : T → Prop} : OptP (modT (.int i) (.int j)) Q = (0 < j ∧ Q (.int (i % j))) := optP_if
theorem o_div {i j : Int} {Q : T → Prop} : OptP (divT (.int i) (.int j)) Q = ((0 < j ∧ j.natAbs < 1073741824) ∧ Q (.int (i / j))) := optP_if
theorem o_rng1 {j : Int} {Q : List T → Prop} : OptP (rngT [.int j]) Q = (RngOk j ∧ Q ((List.range j.toNat).map fun k => .int (0 + (k : Nat)))) := optP_if
theorem o_rng2 {i j : Int} {Q : List T → Prop} : OptP (rngT [.int i, .int j]) Q = ((RngOk i ∧ RngOk j) ∧ Q ((List.range (j - i).toNat).map fun k => .int (i + (k : Nat)))) := by
  exact optP_if (c := RngOk i ∧ RngOk j)
theorem e_neg {i : Int} : negT (.int i) = some (.int (-i)) := rfl
theorem e_lt_i {i j : Int} : ltT (.int i) (.int j) = some (.bl (decide (i < j))) := rfl
theorem e_le {i j : Int} : leT (.int i) (.int j) = some (.bl (decide (i ≤ j))) := rfl
theorem e_gt {i j : Int} : gtT (.int i) (.int j) = some (.bl (decide (j < i))) := rfl
theorem e_ge {i j : Int} : geT (.int i) (.int j) = some (.bl (decide (j ≤ i))) := rfl
theorem e_eq_i {i j : Int} : eqT (.int i) (.int j) = some (.bl (decide (i = j))) := by
  show some (T.bl (decide (V.int i = V.int j))) = _
  congr 2
  by_cases h : i = j
  · subst h; simp
  · rw [decide_eq_false h, decide_eq_false fun z => h (by cases z; rfl)]
theorem e_ne_i {i j : Int} : neT (.int i) (.int j) = some (.bl (!decide (i = j))) := by
  show some (T.bl (!decide (V.int i = V.int j))) = _
  congr 2
  by_cases h : i = j
  · subst h; simp
  · rw [decide_eq_false h, decide_eq_false fun z => h (by cases z; rfl)]
theorem e_tru_b {b : Bool} : truT (.bl b) = some b := rfl
theorem e_tru_i {i : Int} : truT (.int i) = some (i != 0) := rfl
theorem e_ix_own {ts : List T} {k : Int} : ixT (.own ts) (.int k) = atI ts k := rfl
theorem e_ix_tup {ts : List T} {k : Int} : ixT (.tup ts) (.int k) = atI ts k := rfl
theorem e_ix_lst {ts : List T} {k : Int} : ixT (.lst ts) (.int k) = atI ts k := rfl
theorem e_len_lst {ts : List T} : lenT (.lst ts) = some (.int (ts.length : Int)) := rfl
theorem e_len_own {ts : List T} : lenT (.own ts) = some (.int (ts.length : Int)) := rfl
theorem e_len_tup {ts : List T} : lenT (.tup ts) = some (.int (ts.length : Int)) := rfl
theorem e_int_i {i : Int} : intT (.int i) = some (.int i) := rfl
theorem e_own {e : Env} {ts : List T} : ownAt (some (.own ts) :: e) 0 = some ts := rfl
theorem e_at_own {e : Env} {t : Option T} {i : Nat} : ownAt (t :: e) (i + 1) = ownAt e i := rfl
theorem e_fill0 {e : Env} : fillA [] [] e = some [] := rfl
theorem e_fillv {m : E} {r : List AE} {t : T} {xs : List (Option T)} {e : Env} : fillA (.v m :: r) (some t :: xs) e = (fillA r xs e).bind fun ts => some (frz t :: ts) := rfl
theorem e_fills {j : Nat} {r : List AE} {xs : List (Option T)} {e : Env} : fillA (.s j :: r) (none :: xs) e = e[j]?.join.bind fun t => (fillA r xs e).bind fun ts => some (t :: ts) := rfl
theorem e_intOf {i : Int} : intOf (.int i) = some (some i) := rfl
theorem e_frz_i {i : Int} : frz (.int i) = .int i := by simp [frz]
theorem e_frz_b {b : Bool} : frz (.bl b) = .bl b := by simp [frz]
theorem e_frz_s {s : Str} : frz (.str s) = .str s := by simp [frz]
theorem e_frz_n : frz .non = .non := by simp [frz]
theorem e_frz_own {ts : List T} : frz (.own ts) = .lst (frzs ts) := by simp [frz]
theorem e_frz_lst {ts : List T} : frz (.lst ts) = .lst ts := by simp [frz]
theorem e_frz_tup {ts : List T} : frz (.tup ts) = .tup ts := by simp [frz]
theorem e_frzs0 : frzs [] = [] := by simp [frzs]
theorem e_frzs1 {t : T} {ts : List T} : frzs (t :: ts) = frz t :: frzs ts := by simp [frzs]
theorem e_gNm {i : Nat} {t : T} {e : Env} : gNm i t e = some (e.set i (some t)) := rfl
theorem e_bl {b : Bool} : blOf (.bl b) = some b := rfl
theorem e_noOwn_i {i : Int} : noOwn (.int i) = true := rfl
theorem e_noOwn_s {s : Str} : noOwn (.str s) = true := rfl
theorem e_noOwn_b {b : Bool} : noOwn (.bl b) = true := rfl
theorem e_noOwn_n : noOwn .non = true := rfl
theorem e_noOwn_tup {ts : List T} : noOwn (.tup ts) = true := rfl
theorem e_noOwn_lst {ts : List T} : noOwn (.lst ts) = true := rfl
theorem e_f1 {f : T → Option T} {t : T} : f1 f [t] = f t := rfl
theorem e_f2 {f : T → T → Option T} {t u : T} : f2 f [t, u] = f t u := rfl
theorem e_max {i j : Int} : maxT (.int i) (.int j) = some (.int (if j > i then j else i)) := rfl
theorem e_min {i j : Int} : minT (.int i) (.int j) = some (.int (if j < i then j else i)) := rfl
theorem e_links0 {n : Nat} : links n [] = [] := rfl
theorem e_linksv {n : Nat} {m : E} {r : List AE} : links n (.v m :: r) = links (n + 1) r := rfl
theorem e_linkss {n j : Nat} {r : List AE} : links n (.s j :: r) = (n, j) :: links (n + 1) r := rfl
theorem e_put0 {e : Env} : putO e [] [] = e := rfl
theorem e_put1 {e : Env} {i : Nat} {is : List Nat} {t : T} {ts : List T} : putO e (i :: is) (t :: ts) = (putO e is ts).set i (some t) := rfl
theorem e_calm0 {e : Env} : calmAt e [] = true := rfl
theorem e_calmL {e : Env} : calmL e [] = true := rfl
theorem e_wipe0 {e : Env} : wipeE e [] = e := rfl
theorem e_wipe1 {e : Env} {v : Nat} {vs : List Nat} : wipeE e (v :: vs) = (wipeE e vs).set v none := rfl
theorem e_unwipe0 {e e1 : Env} : unwipe e e1 [] = e1 := rfl
theorem e_unwipe1 {e e1 : Env} {v : Nat} {vs : List Nat} : unwipe e e1 (v :: vs) = (unwipe e e1 vs).set v (e[v]?.join) := rfl
theorem ixN_nat {n k : Nat} (h : k < n) : ixN n (k : Int) = some k := by
  unfold ixN
  rw [if_pos (by omega), if_pos (by omega), Int.toNat_natCast]
theorem atI_nat {ts : List T} {k : Nat} : atI ts (k : Int) = ts[k]? := by
  unfold atI ixN
  by_cases h : k < ts.length
  · rw [if_pos (by omega), if_pos (by omega), Int.toNat_natCast]; rfl
  · rw [if_pos (by omega), if_neg (by omega), List.getElem?_eq_none (by omega)]; rfl
theorem e_at0 {a : T} {l : List T} : atI (a :: l) 0 = some a := atI_nat (k := 0)
theorem e_at1 {a b : T} {l : List T} : atI (a :: b :: l) 1 = some b := atI_nat (k := 1)
theorem e_at2 {a b c : T} {l : List T} : atI (a :: b :: c :: l) 2 = some c := atI_nat (k := 2)
theorem e_at3 {a b c d : T} {l : List T} : atI (a :: b :: c :: d :: l) 3 = some d := atI_nat (k := 3)
theorem e_at4 {a b c d f : T} {l : List T} : atI (a :: b :: c :: d :: f :: l) 4 = some f := atI_nat (k := 4)
theorem e_ix0 {n : Nat} : ixN (n + 1) 0 = some 0 := ixN_nat (k := 0) (by omega)
theorem e_ix1 {n : Nat} : ixN (n + 2) 1 = some 1 := ixN_nat (k := 1) (by omega)
theorem e_ix2 {n : Nat} : ixN (n + 3) 2 = some 2 := ixN_nat (k := 2) (by omega)
theorem e_ix3 {n : Nat} : ixN (n + 4) 3 = some 3 := ixN_nat (k := 3) (by omega)
theorem e_ix4 {n : Nat} : ixN (n + 5) 4 = some 4 := ixN_nat (k := 4) (by omega)
theorem ite_in {c : Prop} {inst : Decidable c} {A B : Prop} (h1 : c → A) (h2 : ¬ c → B) : if c then A else B := by
  by_cases h : c
  · rw [if_pos h]; exact h1 h
  · rw [if_neg h]; exact h2 h
theorem OptP.of {α : Type} {o : Option α} {a : α} {Q : α → Prop} (h : o = some a) (q : Q a) : OptP o Q := by rw [h]; exact q
theorem atI_int {α : Type} {ts : List α} {k : Int} (h0 : 0 ≤ k) (h : k.toNat < ts.length) : atI ts k = some ts[k.toNat] := by
  unfold atI ixN
  rw [if_pos h0, if_pos (by omega)]
  simp [h]
theorem e_powc (i : Int) (j : Int) (v : Int) (h : 0 ≤ j ∧ j.natAbs ≤ 1000000 ∧ i.natAbs < 18446744073709551616) (h2 : i ^ j.toNat = v) : powT (.int i) (.int j) = some (.int v) := by
  rw [e_pow, if_pos h, h2]
theorem e_pow18 : powT (.int 10) (.int 18) = some (.int 1000000000000000000) := e_powc _ _ _ (by decide) (by decide)
theorem e_pow20 : powT (.int 10) (.int 20) = some (.int 100000000000000000000) := e_powc _ _ _ (by decide) (by decide)
theorem e_pow31 : powT (.int 2) (.int 31) = some (.int 2147483648) := e_powc _ _ _ (by decide) (by decide)
theorem e_pow63 : powT (.int 2) (.int 63) = some (.int 9223372036854775808) := e_powc _ _ _ (by decide) (by decide)
theorem e_pow64 : powT (.int 2) (.int 64) = some (.int 18446744073709551616) := e_powc _ _ _ (by decide) (by decide)
theorem isi_of {m n : String} {x : T} {b : Bool} (e : tyN x = m) (h : kitB m n = some b) : isiT n x = some (.bl b) := by
  unfold isiT; rw [e, h]; rfl
theorem e_isi_non_str  : isiT "str" (.non) = some (.bl false) := isi_of (m := "NoneType") rfl (by decide +kernel)
theorem e_isi_non_int  : isiT "int" (.non) = some (.bl false) := isi_of (m := "NoneType") rfl (by decide +kernel)
theorem e_isi_non_bool  : isiT "bool" (.non) = some (.bl false) := isi_of (m := "NoneType") rfl (by decide +kernel)
theorem e_isi_non_tuple  : isiT "tuple" (.non) = some (.bl false) := isi_of (m := "NoneType") rfl (by decide +kernel)
theorem e_isi_non_list  : isiT "list" (.non) = some (.bl false) := isi_of (m := "NoneType") rfl (by decide +kernel)
theorem e_isi_non_dict  : isiT "dict" (.non) = some (.bl false) := isi_of (m := "NoneType") rfl (by decide +kernel)
theorem e_isi_bl_str {b : Bool} : isiT "str" (.bl b) = some (.bl false) := isi_of (m := "bool") rfl (by decide +kernel)
theorem e_isi_bl_int {b : Bool} : isiT "int" (.bl b) = some (.bl true) := isi_of (m := "bool") rfl (by decide +kernel)
theorem e_isi_bl_bool {b : Bool} : isiT "bool" (.bl b) = some (.bl true) := isi_of (m := "bool") rfl (by decide +kernel)
theorem e_isi_bl_tuple {b : Bool} : isiT "tuple" (.bl b) = some (.bl false) := isi_of (m := "bool") rfl (by decide +kernel)
theorem e_isi_bl_list {b : Bool} : isiT "list" (.bl b) = some (.bl false) := isi_of (m := "bool") rfl (by decide +kernel)
theorem e_isi_bl_dict {b : Bool} : isiT "dict" (.bl b) = some (.bl false) := isi_of (m := "bool") rfl (by decide +kernel)
theorem e_isi_int_str {i : Int} : isiT "str" (.int i) = some (.bl false) := isi_of (m := "int") rfl (by decide +kernel)
theorem e_isi_int_int {i : Int} : isiT "int" (.int i) = some (.bl true) := isi_of (m := "int") rfl (by decide +kernel)
theorem e_isi_int_bool {i : Int} : isiT "bool" (.int i) = some (.bl false) := isi_of (m := "int") rfl (by decide +kernel)
theorem e_isi_int_tuple {i : Int} : isiT "tuple" (.int i) = some (.bl false) := isi_of (m := "int") rfl (by decide +kernel)
theorem e_isi_int_list {i : Int} : isiT "list" (.int i) = some (.bl false) := isi_of (m := "int") rfl (by decide +kernel)
theorem e_isi_int_dict {i : Int} : isiT "dict" (.int i) = some (.bl false) := isi_of (m := "int") rfl (by decide +kernel)
theorem e_isi_str_str {s : Str} : isiT "str" (.str s) = some (.bl true) := isi_of (m := "str") rfl (by decide +kernel)
theorem e_isi_str_int {s : Str} : isiT "int" (.str s) = some (.bl false) := isi_of (m := "str") rfl (by decide +kernel)
theorem e_isi_str_bool {s : Str} : isiT "bool" (.str s) = some (.bl false) := isi_of (m := "str") rfl (by decide +kernel)
theorem e_isi_str_tuple {s : Str} : isiT "tuple" (.str s) = some (.bl false) := isi_of (m := "str") rfl (by decide +kernel)
theorem e_isi_str_list {s : Str} : isiT "list" (.str s) = some (.bl false) := isi_of (m := "str") rfl (by decide +kernel)
theorem e_isi_str_dict {s : Str} : isiT "dict" (.str s) = some (.bl false) := isi_of (m := "str") rfl (by decide +kernel)
theorem e_isi_tup_str {ts : List T} : isiT "str" (.tup ts) = some (.bl false) := isi_of (m := "tuple") rfl (by decide +kernel)
theorem e_isi_tup_int {ts : List T} : isiT "int" (.tup ts) = some (.bl false) := isi_of (m := "tuple") rfl (by decide +kernel)
theorem e_isi_tup_bool {ts : List T} : isiT "bool" (.tup ts) = some (.bl false) := isi_of (m := "tuple") rfl (by decide +kernel)
theorem e_isi_tup_tuple {ts : List T} : isiT "tuple" (.tup ts) = some (.bl true) := isi_of (m := "tuple") rfl (by decide +kernel)
theorem e_isi_tup_list {ts : List T} : isiT "list" (.tup ts) = some (.bl false) := isi_of (m := "tuple") rfl (by decide +kernel)
theorem e_isi_tup_dict {ts : List T} : isiT "dict" (.tup ts) = some (.bl false) := isi_of (m := "tuple") rfl (by decide +kernel)
theorem e_isi_lst_str {ts : List T} : isiT "str" (.lst ts) = some (.bl false) := isi_of (m := "list") rfl (by decide +kernel)
theorem e_isi_lst_int {ts : List T} : isiT "int" (.lst ts) = some (.bl false) := isi_of (m := "list") rfl (by decide +kernel)
theorem e_isi_lst_bool {ts : List T} : isiT "bool" (.lst ts) = some (.bl false) := isi_of (m := "list") rfl (by decide +kernel)
theorem e_isi_lst_tuple {ts : List T} : isiT "tuple" (.lst ts) = some (.bl false) := isi_of (m := "list") rfl (by decide +kernel)
theorem e_isi_lst_list {ts : List T} : isiT "list" (.lst ts) = some (.bl true) := isi_of (m := "list") rfl (by decide +kernel)
theorem e_isi_lst_dict {ts : List T} : isiT "dict" (.lst ts) = some (.bl false) := isi_of (m := "list") rfl (by decide +kernel)
theorem e_isi_own_str {ts : List T} : isiT "str" (.own ts) = some (.bl false) := isi_of (m := "list") rfl (by decide +kernel)
theorem e_isi_own_int {ts : List T} : isiT "int" (.own ts) = some (.bl false) := isi_of (m := "list") rfl (by decide +kernel)
theorem e_isi_own_bool {ts : List T} : isiT "bool" (.own ts) = some (.bl false) := isi_of (m := "list") rfl (by decide +kernel)
theorem e_isi_own_tuple {ts : List T} : isiT "tuple" (.own ts) = some (.bl false) := isi_of (m := "list") rfl (by decide +kernel)
theorem e_isi_own_list {ts : List T} : isiT "list" (.own ts) = some (.bl true) := isi_of (m := "list") rfl (by decide +kernel)
theorem e_isi_own_dict {ts : List T} : isiT "dict" (.own ts) = some (.bl false) := isi_of (m := "list") rfl (by decide +kernel)
theorem e_isi_rol_str {ts : List T} : isiT "str" (.rol ts) = some (.bl false) := isi_of (m := "list") rfl (by decide +kernel)
theorem e_isi_rol_int {ts : List T} : isiT "int" (.rol ts) = some (.bl false) := isi_of (m := "list") rfl (by decide +kernel)
theorem e_isi_rol_bool {ts : List T} : isiT "bool" (.rol ts) = some (.bl false) := isi_of (m := "list") rfl (by decide +kernel)
theorem e_isi_rol_tuple {ts : List T} : isiT "tuple" (.rol ts) = some (.bl false) := isi_of (m := "list") rfl (by decide +kernel)
theorem e_isi_rol_list {ts : List T} : isiT "list" (.rol ts) = some (.bl true) := isi_of (m := "list") rfl (by decide +kernel)
theorem e_isi_rol_dict {ts : List T} : isiT "dict" (.rol ts) = some (.bl false) := isi_of (m := "list") rfl (by decide +kernel)
theorem e_isi_dct_str {ts : List (Key × T)} : isiT "str" (.dct ts) = some (.bl false) := isi_of (m := "dict") rfl (by decide +kernel)
theorem e_isi_dct_int {ts : List (Key × T)} : isiT "int" (.dct ts) = some (.bl false) := isi_of (m := "dict") rfl (by decide +kernel)
theorem e_isi_dct_bool {ts : List (Key × T)} : isiT "bool" (.dct ts) = some (.bl false) := isi_of (m := "dict") rfl (by decide +kernel)
theorem e_isi_dct_tuple {ts : List (Key × T)} : isiT "tuple" (.dct ts) = some (.bl false) := isi_of (m := "dict") rfl (by decide +kernel)
theorem e_isi_dct_list {ts : List (Key × T)} : isiT "list" (.dct ts) = some (.bl false) := isi_of (m := "dict") rfl (by decide +kernel)
theorem e_isi_dct_dict {ts : List (Key × T)} : isiT "dict" (.dct ts) = some (.bl true) := isi_of (m := "dict") rfl (by decide +kernel)
theorem e_isi_odc_str {ts : List (Key × T)} : isiT "str" (.odc ts) = some (.bl false) := isi_of (m := "dict") rfl (by decide +kernel)
theorem e_isi_odc_int {ts : List (Key × T)} : isiT "int" (.odc ts) = some (.bl false) := isi_of (m := "dict") rfl (by decide +kernel)
theorem e_isi_odc_bool {ts : List (Key × T)} : isiT "bool" (.odc ts) = some (.bl false) := isi_of (m := "dict") rfl (by decide +kernel)
theorem e_isi_odc_tuple {ts : List (Key × T)} : isiT "tuple" (.odc ts) = some (.bl false) := isi_of (m := "dict") rfl (by decide +kernel)
theorem e_isi_odc_list {ts : List (Key × T)} : isiT "list" (.odc ts) = some (.bl false) := isi_of (m := "dict") rfl (by decide +kernel)
theorem e_isi_odc_dict {ts : List (Key × T)} : isiT "dict" (.odc ts) = some (.bl true) := isi_of (m := "dict") rfl (by decide +kernel)
theorem e_is_non {x : T} : isT x .non = some (.bl (isNonT x)) := rfl
theorem e_is_bl {x : T} {b : Bool} : isT x (.bl b) = some (.bl (isBlT x b)) := rfl
theorem e_isn_non {x : T} : isnT x .non = some (.bl (!isNonT x)) := rfl
theorem e_isn_bl {x : T} {b : Bool} : isnT x (.bl b) = some (.bl (!isBlT x b)) := rfl
theorem e_isBl {a b : Bool} : isBlT (.bl a) b = (a == b) := rfl
theorem e_isNon_b {a : Bool} : isNonT (.bl a) = false := rfl
def ls (s : Str) : List Nat := s.cps.toList
theorem e_in_ss {c : Nat} {z : Str} : inT (.str ⟨#[c]⟩) (.str z) = some (.bl (decide (c ∈ ls z))) := rfl
theorem e_nin_ss {c : Nat} {z : Str} : ninT (.str ⟨#[c]⟩) (.str z) = some (.bl (!decide (c ∈ ls z))) := rfl
theorem e_its_str {z : Str} : itsT (.str z) = some ((ls z).map fun c => .str ⟨#[c]⟩) := rfl
theorem ls_append (a b : Str) : ls (a ++ b) = ls a ++ ls b := by
  show (a.cps ++ b.cps).toList = a.cps.toList ++ b.cps.toList
  simp
theorem ls_len (a : Str) : a.length = (ls a).length := by
  show a.cps.size = (a.cps.toList).length
  simp
theorem ls_one (c : Nat) : ls ⟨#[c]⟩ = [c] := rfl
theorem ix_str {z : Str} {k : Int} {Q : T → Prop} (h0 : 0 ≤ k) (h : k.toNat < (ls z).length) (hz : (ls z).length ≤ sizeLine) (q : ∀ c, c ∈ ls z → Q (.str ⟨#[c]⟩)) : OptP (ixT (.str z) (.int k)) Q := by
  show OptP (if z.length ≤ sizeLine then (atI (ls z) k).map fun c => .str ⟨#[c]⟩ else none) Q
  rw [if_pos (by rw [ls_len]; exact hz), atI_int h0 h]
  exact q _ (List.getElem_mem h)
theorem add_str {x y : Str} {Q : T → Prop} (h : (ls x).length + (ls y).length ≤ sizeLine) (q : Q (.str (x ++ y))) : OptP (addT (.str x) (.str y)) Q := by
  show OptP (if x.length + y.length ≤ sizeLine then some (.str (x ++ y)) else none) Q
  rw [if_pos (by rw [ls_len, ls_len]; exact h)]
  exact q
theorem len_str {x : Str} {Q : T → Prop} (h : (ls x).length ≤ sizeLine) (q : Q (.int ((ls x).length : Int))) : OptP (lenT (.str x)) Q := by
  show OptP (if x.length ≤ sizeLine then some (.int (x.length : Int)) else none) Q
  rw [ls_len, if_pos h]
  exact q
theorem ls_cut (z : Str) (lo hi : Option Int) : ls (cutS z lo hi) = ((ls z).drop (HT.sIx (ls z).length 0 lo)).take (HT.sIx (ls z).length (ls z).length hi - HT.sIx (ls z).length 0 lo) := by
  unfold cutS
  rw [ls_len]
  show (List.toArray _).toList = _
  rw [List.toList_toArray]; rfl
theorem sl_str_in {z : Str} {lo hi : Option Int} {Q : T → Prop} (h : (ls z).length ≤ sizeLine) (q : Q (.str (cutS z lo hi))) : OptP (slT (.str z) lo hi) Q := by
  show OptP (if z.length ≤ sizeLine then some (.str (cutS z lo hi)) else none) Q
  rw [if_pos (by rw [ls_len]; exact h)]
  exact q
theorem mul_str {z : Str} {n : Int} {Q : T → Prop} (h1 : 1 ≤ n) (h2 : n ≤ 100000) (h3 : (ls z).length * n.toNat ≤ sizeLine) (q : ∀ w : Str, ls w = (List.replicate n.toNat (ls z)).flatten → Q (.str w)) : OptP (mulT (.str z) (.int n)) Q := by
  show OptP (if 1 ≤ n ∧ n.natAbs ≤ 100000 ∧ z.length * n.toNat ≤ sizeLine then some (T.str ⟨(List.replicate n.toNat z.cps).foldl (· ++ ·) #[]⟩) else none) Q
  rw [if_pos ⟨h1, by omega, by rw [ls_len]; exact h3⟩]
  refine q _ ?_
  have go : ∀ (k : Nat) (a : Array Nat), ((List.replicate k z.cps).foldl (· ++ ·) a).toList = a.toList ++ (List.replicate k (ls z)).flatten := fun k => by
    induction k with
    | zero => intro a; simp
    | succ k ih => intro a; rw [List.replicate_succ, List.foldl_cons, ih, List.replicate_succ, List.flatten_cons]; simp [ls]
  have := go n.toNat #[]
  show ((List.replicate n.toNat z.cps).foldl (· ++ ·) #[]).toList = _
  simpa using this
theorem okR_lst {n : Nat} {xs : List (Option T)} {t : T} {outs : List T} (h1 : outs.length = n) (h2 : noLst t = true) (h3 : noLsts outs = true) : okR n xs t outs = true := by
  unfold okR; rw [h1, h2, h3]; simp
end Mir
namespace Mir
open PySem PySem.Spec L2
def All2 {α β : Type} (P : α → β → Prop) : List α → List β → Prop
  | [], [] => True
  | x :: xs, y :: ys => P x y ∧ All2 P xs ys
  | _, _ => False
theorem All2.length {α β : Type} {P : α → β → Prop} : ∀ {xs : List α} {ys : List β}, All2 P xs ys → xs.length = ys.length
  | [], [], _ => rfl
  | x :: xs, y :: ys, h => by rw [List.length_cons, List.length_cons, All2.length h.2]
theorem All2.snoc {α β : Type} {P : α → β → Prop} {x : α} {y : β} (hp : P x y) : ∀ {xs : List α} {ys : List β}, All2 P xs ys → All2 P (xs ++ [x]) (ys ++ [y])
  | [], [], _ => ⟨hp, trivial⟩
  | _ :: _, _ :: _, h => ⟨h.1, All2.snoc hp h.2⟩
theorem All2.map_eq {α β : Type} {g : α → β} : ∀ {xs : List α} {ys : List β}, All2 (fun x y => y = g x) xs ys → ys = xs.map g
  | [], [], _ => rfl
  | x :: xs, y :: ys, h => by rw [List.map_cons, All2.map_eq h.2, h.1]
theorem All2.get {α β : Type} {P : α → β → Prop} : ∀ {xs : List α} {ys : List β} (k : Nat) (hk : k < xs.length), All2 P xs ys → ∃ y, ys[k]? = some y ∧ P xs[k] y
  | x :: xs, y :: ys, 0, _, h => ⟨y, rfl, h.1⟩
  | x :: xs, y :: ys, k + 1, hk, h => All2.get (xs := xs) (ys := ys) k (by simpa using hk) h.2
theorem All2.all {α β : Type} {P : α → β → Prop} {R : β → Prop} (f : ∀ x y, P x y → R y) : ∀ {xs : List α} {ys : List β}, All2 P xs ys → ∀ y ∈ ys, R y
  | [], [], _ => fun y hy => by cases hy
  | x :: xs, y :: ys, h => fun z hz => by
    rcases List.mem_cons.mp hz with rfl | q
    · exact f _ _ h.1
    · exact All2.all f h.2 z q
theorem set_twice {e : Env} {i : Nat} {a b : Option T} : (e.set i a).set i b = e.set i b := by
  simp
theorem calm_one {e : Env} {i : Nat} {x : T} (h : noOwn x = true) : calmAt (e.set i (some x)) [i] = true := by
  unfold calmAt
  rw [List.all_cons, List.all_nil, Bool.and_true]
  by_cases hi : i < e.length
  · rw [List.getElem?_set_self hi]
    exact h
  · rw [List.getElem?_eq_none (by rw [List.length_set]; omega)]
    rfl
theorem lc_map {i : Nat} {te : E} {e : Env} {Q : List T → Env → Prop} {X : Exc → Env → Prop} (P : T → T → Prop) (its : List T) (hw : e.set i none = e) (hn : ∀ x ∈ its, noOwn x = true) (hl : its.length ≤ sizeLine)
    (h : ∀ x ∈ its, SatR (te (e.set i (some x))) (fun y e2 => e2 = e.set i (some x) ∧ P x y) X0) (q : ∀ ys, All2 P its ys → Q ys e) : SatR (lcL (gNm i) yesC te [i] its [] e) Q X := by
  refine lcL_inv (fun rest acc e' => ∃ done, its = done ++ rest ∧ All2 P done acc ∧ e' = e) ?_ ?_ _ _ _ ⟨[], rfl, trivial, rfl⟩
  · rintro t ts acc e' ⟨done, e1, ha, rfl⟩
    have hm : t ∈ its := by rw [e1]; simp
    show SatR (te (e'.set i (some t))) (fun y e3 => acc.length < sizeLine ∧ calmAt e3 [i] = true ∧ _) X0
    refine satR_mono (h t hm) (fun y e2 => ?_) fun _ _ z => z
    rintro ⟨rfl, hp⟩
    have e2 : its.length = done.length + (ts.length + 1) := by rw [e1, List.length_append]; rfl
    refine ⟨by rw [← ha.length]; omega, calm_one (hn t hm), done ++ [t], by rw [e1]; simp, ha.snoc hp, ?_⟩
    show (e'.set i (some t)).set i none = e'
    rw [set_twice, hw]
  · rintro acc e' ⟨done, e1, ha, rfl⟩
    rw [List.append_nil] at e1
    subst e1
    exact q acc ha
end Mir
namespace Mir
open PySem PySem.Spec L2
section
variable {Q : T → Env → Prop} {X : Exc → Env → Prop} {D : OD} {e : Env}
theorem w_isxE {tab : XTab} {x : Exc} {y : Str} : SatR (isxE tab x y e) Q X = (hasX tab x.cls = true ∧ Q (.bl (subX x.cls y)) e) := by
  unfold isxE
  by_cases h : hasX tab x.cls = true
  · rw [if_pos h]; simp only [h, true_and]; rfl
  · rw [if_neg h]
    have : hasX tab x.cls = false := by simpa using h
    rw [this]; simp; exact fun z => z
theorem w_fldE {tab : XTab} {x : Exc} {f : Str} : SatR (fldE tab x f e) Q X = ((fldsX tab x.cls).contains f = true ∧ OptP (x.fields.lookup f) (kAt Q e)) := by
  unfold fldE
  by_cases h : (fldsX tab x.cls).contains f = true
  · rw [if_pos h, satR_optR]; simp only [h, true_and]; rfl
  · rw [if_neg h]
    have : (fldsX tab x.cls).contains f = false := by simpa using h
    rw [this]; simp; exact fun z => z
def kRse (c : Str) (fl : List Str) (D : OD) : List T → Env → Prop := fun ts e => ts.length = fl.length ∧ noOwns ts = true ∧ D.ex ⟨c, (fl.zip ts).reverse⟩ e
theorem k_rse {c : Str} {fl : List Str} {ts : List T} : kRse c fl D ts e = (ts.length = fl.length ∧ noOwns ts = true ∧ D.ex ⟨c, (fl.zip ts).reverse⟩ e) := rfl
theorem w_raiseS {c : Str} {fl : List Str} {m : A} : SatO (raiseS c fl m e) D = SatR (m e) (kRse c fl D) D.ex := by
  unfold raiseS
  rw [satO_of]
  congr 1
  funext ts e1
  by_cases h : ts.length = fl.length ∧ noOwns ts = true
  · rw [if_pos h]
    unfold kRse
    rw [h.1, h.2]
    simp
    rfl
  · rw [if_neg h]
    unfold kRse
    refine propext ⟨fun z => z.elim, fun z => h ⟨z.1, z.2.1⟩⟩
def kTry (i : Nat) (tab : XTab) (y : Str) (su : Exc → S) (D : OD) : Exc → Env → Prop := fun x e1 => hasX tab x.cls = true ∧ i < e1.length ∧ if subX x.cls y = true then SatO (su x (e1.set i none)) ⟨fun e => D.nx (e.set i none), D.rt, fun e => D.bk (e.set i none), fun e => D.ct (e.set i none), fun _ _ => False⟩ else D.ex x e1
theorem k_try {i : Nat} {tab : XTab} {y : Str} {su : Exc → S} {x : Exc} : kTry i tab y su D x e = (hasX tab x.cls = true ∧ i < e.length ∧ if subX x.cls y = true then SatO (su x (e.set i none)) ⟨fun e => D.nx (e.set i none), D.rt, fun e => D.bk (e.set i none), fun e => D.ct (e.set i none), fun _ _ => False⟩ else D.ex x e) := rfl
theorem satO_endX {i : Nat} {o : O} : SatO (endX i o) D = SatO o ⟨fun e => D.nx (e.set i none), D.rt, fun e => D.bk (e.set i none), fun e => D.ct (e.set i none), fun _ _ => False⟩ := by
  cases o <;> rfl
theorem w_tryE {i : Nat} {tab : XTab} {y : Str} {b : S} {su : Exc → S} : SatO (tryE i tab y b su e) D = SatO (b e) ⟨D.nx, D.rt, D.bk, D.ct, kTry i tab y su D⟩ := by
  unfold tryE
  cases b e with
  | ex x e1 =>
    show SatO (if hasX tab x.cls = true ∧ i < e1.length then (if subX x.cls y = true then endX i (su x (e1.set i none)) else .ex x e1) else .no) D = kTry i tab y su D x e1
    unfold kTry
    by_cases h : hasX tab x.cls = true ∧ i < e1.length
    · rw [if_pos h]
      have a1 := h.1
      have a2 := h.2
      by_cases h2 : subX x.cls y = true
      · rw [if_pos h2, if_pos h2, satO_endX]
        simp only [a1, a2, true_and]
      · rw [if_neg h2, if_neg h2]
        simp only [a1, a2, true_and]
        rfl
    · rw [if_neg h]
      refine propext ⟨fun z => z.elim, fun z => h ⟨z.1, z.2.1⟩⟩
  | _ => rfl
end
theorem satO_mono {o : O} {D D' : OD} (h : SatO o D) (nx : ∀ e, D.nx e → D'.nx e) (rt : ∀ t e, D.rt t e → D'.rt t e) (bk : ∀ e, D.bk e → D'.bk e) (ct : ∀ e, D.ct e → D'.ct e) (ex : ∀ x e, D.ex x e → D'.ex x e) : SatO o D' := by
  cases o with
  | nx e => exact nx e h
  | rt t e => exact rt t e h
  | bk e => exact bk e h
  | ct e => exact ct e h
  | ex x e => exact ex x e h
  | no => exact h
theorem satO_on {o : O} {D : OD} {P : Env → Prop} (h : SatO o ⟨P, fun _ _ => False, fun _ => False, fun _ => False, fun _ _ => False⟩) (nx : ∀ e, P e → D.nx e) : SatO o D := satO_mono h nx (fun _ _ z => z.elim) (fun _ z => z.elim) (fun _ z => z.elim) (fun _ _ z => z.elim)
theorem e_pow19 : powT (.int 10) (.int 19) = some (.int 10000000000000000000) := e_powc _ _ _ (by decide) (by decide)
theorem e_abs {i : Int} : absT (.int i) = some (.int (if i < 0 then -i else i)) := rfl
section
variable {Q : T → Env → Prop} {X : Exc → Env → Prop} {D : OD} {e : Env}
def kPopB (i : Nat) (Q : T → Env → Prop) (e : Env) : T × List T → Prop := fun p => noOwn p.1 = true ∧ Q p.1 (e.set i (some (.own p.2)))
theorem k_popB {i : Nat} {t : T} {us : List T} : kPopB i Q e (t, us) = (noOwn t = true ∧ Q t (e.set i (some (.own us)))) := rfl
def kPopA (i : Nat) (Q : T → Env → Prop) : T → Env → Prop := fun j e1 => OptP (ownAt e1 i) fun ts => OptP (popT ts j) (kPopB i Q e1)
theorem k_popA {i : Nat} {j : T} : kPopA i Q j e = OptP (ownAt e i) fun ts => OptP (popT ts j) (kPopB i Q e) := rfl
theorem w_popAt {i : Nat} {k : E} : SatR (popAtE i k e) Q X = OptP (ownAt e i) fun _ => SatR (k e) (kPopA i Q) X := by
  unfold popAtE
  cases ownAt e i with
  | none => rfl
  | some ts =>
    dsimp only
    rw [satR_bind, optP_some]
    congr 1
    funext j e1
    unfold kPopA
    cases ownAt e1 i with
    | none => rfl
    | some us =>
      dsimp only
      rw [optP_some]
      cases popT us j with
      | none => rfl
      | some p =>
        dsimp only
        rw [optP_some]
        unfold kPopB
        by_cases h : noOwn p.1 = true
        · rw [if_pos h]; simp only [h, true_and]; rfl
        · rw [if_neg h]
          refine propext ⟨fun z => z.elim, fun z => h z.1⟩
def intAt (e : Env) (i : Nat) : Option Int := match e[i]?.join with
  | some (.int x) => some x
  | _ => none
theorem e_intAt0 {x : Int} : intAt (some (.int x) :: e) 0 = some x := rfl
theorem e_intAtS {t : Option T} {i : Nat} : intAt (t :: e) (i + 1) = intAt e i := rfl
def intT? : T → Option Int
  | .int x => some x
  | _ => none
theorem e_intT {x : Int} : intT? (.int x) = some x := rfl
def kAug (i : Nat) (g : Int → Int → Int) (x : Int) (D : OD) : T → Env → Prop := fun y e1 => OptP (intT? y) fun y => D.nx (e1.set i (some (.int (g x y))))
theorem k_aug {i : Nat} {g : Int → Int → Int} {x : Int} {y : T} : kAug i g x D y e = OptP (intT? y) fun y => D.nx (e.set i (some (.int (g x y)))) := rfl
theorem w_augI {i : Nat} {g : Int → Int → Int} {m : E} : SatO (augI i g m e) D = OptP (intAt e i) fun x => SatR (m e) (kAug i g x D) D.ex := by
  unfold augI intAt
  cases h : e[i]?.join with
  | none => rfl
  | some t =>
    cases t with
    | int x =>
      dsimp only
      rw [satO_of, optP_some]
      congr 1
      funext y e1
      unfold kAug
      cases y <;> rfl
    | _ => rfl
end
end Mir
namespace Mir
open PySem PySem.Spec L2
section
variable {Q : T → Env → Prop} {Qs : List T → Env → Prop} {X : Exc → Env → Prop} {D : OD} {e : Env}
def kZip (Qs : List T → Env → Prop) : List T → Env → Prop := fun xs e => OptP (zipT xs) (kAt Qs e)
theorem k_zip {xs : List T} : kZip Qs xs e = OptP (zipT xs) (kAt Qs e) := rfl
theorem w_zipM {m : A} : SatR (zipM m e) Qs X = SatR (m e) (kZip Qs) X := by unfold zipM; simp only [satR_bind, satR_optR]; rfl
def kAg (f : T → Env → Option Env) (D : OD) : T → Env → Prop := fun t e => noOwn t = true ∧ OptP (f t e) D.nx
theorem k_ag {f : T → Env → Option Env} {t : T} : kAg f D t e = (noOwn t = true ∧ OptP (f t e) D.nx) := rfl
theorem w_asgG {f : T → Env → Option Env} {m : E} : SatO (asgG f m e) D = SatR (m e) (kAg f D) D.ex := by
  unfold asgG
  rw [satO_of]
  congr 1
  funext t e1
  unfold kAg
  by_cases h : noOwn t = true
  · rw [if_pos h]
    simp only [h, true_and]
    cases f t e1 <;> rfl
  · rw [if_neg h]
    refine propext ⟨fun z => z.elim, fun z => h z.1⟩
def kDput2 (i : Nat) (t : T) (D : OD) : T → Env → Prop := fun j e => OptP (dctAt e i) fun kvs => OptP (keyOf j) fun k => kvs.length < sizeLine ∧ noOwn t = true ∧ D.nx (e.set i (some (.odc (pvK kvs k t))))
theorem k_dput2 {i : Nat} {t j : T} : kDput2 i t D j e = OptP (dctAt e i) fun kvs => OptP (keyOf j) fun k => kvs.length < sizeLine ∧ noOwn t = true ∧ D.nx (e.set i (some (.odc (pvK kvs k t)))) := rfl
def kDput1 (i : Nat) (k : E) (D : OD) : T → Env → Prop := fun t e => OptP (dctAt e i) fun _ => SatR (k e) (kDput2 i t D) D.ex
theorem k_dput1 {i : Nat} {k : E} {t : T} : kDput1 i k D t e = OptP (dctAt e i) fun _ => SatR (k e) (kDput2 i t D) D.ex := rfl
theorem w_dputS {i : Nat} {k m : E} : SatO (dputS i k m e) D = SatR (m e) (kDput1 i k D) D.ex := by
  unfold dputS
  rw [satO_of]
  congr 1
  funext t e1
  unfold kDput1
  cases dctAt e1 i with
  | none => rfl
  | some kv =>
    dsimp only
    rw [satO_of, optP_some]
    congr 1
    funext j e2
    unfold kDput2 dputAt
    cases dctAt e2 i with
    | none => rfl
    | some kvs =>
      dsimp only
      rw [optP_some]
      cases keyOf j with
      | none => rfl
      | some kk =>
        dsimp only
        rw [optP_some]
        by_cases h : kvs.length < sizeLine ∧ noOwn t = true
        · rw [if_pos h]
          refine propext ⟨fun z => ⟨h.1, h.2, z⟩, fun z => z.2.2⟩
        · rw [if_neg h]
          refine propext ⟨fun z => z.elim, fun z => h ⟨z.1, z.2.1⟩⟩
def kDaug2 (i : Nat) (g : Int → Int → Int) (kk : Key) (n : Int) (D : OD) : T → Env → Prop := fun t e => OptP (intT? t) fun n2 => OptP (dctAt e i) fun kvs => kvs.length < sizeLine ∧ D.nx (e.set i (some (.odc (pvK kvs kk (.int (g n n2))))))
theorem k_daug2 {i : Nat} {g : Int → Int → Int} {kk : Key} {n : Int} {t : T} : kDaug2 i g kk n D t e = OptP (intT? t) fun n2 => OptP (dctAt e i) fun kvs => kvs.length < sizeLine ∧ D.nx (e.set i (some (.odc (pvK kvs kk (.int (g n n2)))))) := rfl
def kDaug1 (i : Nat) (g : Int → Int → Int) (m : E) (D : OD) : T → Env → Prop := fun j e => OptP (dctAt e i) fun kvs => OptP (keyOf j) fun kk => OptP ((gvK kvs kk).bind intT?) fun n => SatR (m e) (kDaug2 i g kk n D) D.ex
theorem k_daug1 {i : Nat} {g : Int → Int → Int} {m : E} {j : T} : kDaug1 i g m D j e = OptP (dctAt e i) fun kvs => OptP (keyOf j) fun kk => OptP ((gvK kvs kk).bind intT?) fun n => SatR (m e) (kDaug2 i g kk n D) D.ex := rfl
theorem w_daugI {i : Nat} {g : Int → Int → Int} {k m : E} : SatO (daugI i g k m e) D = OptP (dctAt e i) fun _ => SatR (k e) (kDaug1 i g m D) D.ex := by
  unfold daugI
  cases dctAt e i with
  | none => rfl
  | some kv =>
    dsimp only
    rw [satO_of, optP_some]
    congr 1
    funext j e1
    unfold kDaug1
    cases dctAt e1 i with
    | none => rfl
    | some kvs =>
      rw [optP_some]
      cases keyOf j with
      | none => rfl
      | some kk =>
        dsimp only
        rw [optP_some]
        cases gvK kvs kk with
        | none => rfl
        | some t =>
          cases t with
          | int n =>
            dsimp only
            rw [satO_of]
            show _ = SatR (m e1) (kDaug2 i g kk n D) D.ex
            congr 1
            funext t e2
            unfold kDaug2
            cases t with
            | int n2 =>
              dsimp only
              show SatO (daugEnd i kk (g n n2) (.int n2) e2) D = OptP (dctAt e2 i) _
              unfold daugEnd
              cases dctAt e2 i with
              | none => rfl
              | some kvs2 =>
                dsimp only
                rw [optP_some]
                by_cases h : kvs2.length < sizeLine
                · rw [if_pos h]; simp only [h, true_and]; rfl
                · rw [if_neg h]; refine propext ⟨fun z => z.elim, fun z => h z.1⟩
            | _ => rfl
          | _ => rfl
def kNapp2 (i q : Nat) (Q : T → Env → Prop) : T → Env → Prop := fun t e => OptP (ownAt e i) fun ts => OptP (ts[q]?.bind ownT?) fun us => us.length < sizeLine ∧ Q .non (e.set i (some (.own (ts.set q (.own (us ++ [t]))))))
where ownT? : T → Option (List T)
  | .own us => some us
  | _ => none
theorem k_napp2 {i q : Nat} {t : T} : kNapp2 i q Q t e = OptP (ownAt e i) fun ts => OptP (ts[q]?.bind kNapp2.ownT?) fun us => us.length < sizeLine ∧ Q .non (e.set i (some (.own (ts.set q (.own (us ++ [t])))))) := rfl
def kNapp1 (i : Nat) (m : E) (Q : T → Env → Prop) (X : Exc → Env → Prop) : T → Env → Prop := fun j e => OptP (ownAt e i) fun ts => OptP (inAt ts j) fun p => SatR (m e) (kNapp2 i p.1 Q) X
theorem k_napp1 {i : Nat} {m : E} {j : T} : kNapp1 i m Q X j e = OptP (ownAt e i) fun ts => OptP (inAt ts j) fun p => SatR (m e) (kNapp2 i p.1 Q) X := rfl
theorem w_nappE {i : Nat} {k m : E} : SatR (nappE i k m e) Q X = OptP (ownAt e i) fun _ => SatR (k e) (kNapp1 i m Q X) X := by
  unfold nappE
  cases ownAt e i with
  | none => rfl
  | some ts0 =>
    dsimp only
    rw [satR_bind, optP_some]
    congr 1
    funext j e1
    unfold kNapp1
    cases ownAt e1 i with
    | none => rfl
    | some ts =>
      show SatR (match inAt ts j with | some p => _ | none => _) Q X = OptP (some ts) _
      rw [optP_some]
      cases inAt ts j with
      | none => rfl
      | some p =>
        dsimp only
        rw [satR_bind, optP_some]
        congr 1
        funext t e2
        unfold kNapp2 inApp
        cases ownAt e2 i with
        | none => rfl
        | some ts2 =>
          dsimp only
          rw [optP_some]
          cases ts2[p.1]? with
          | none => rfl
          | some u =>
            cases u with
            | own us =>
              show SatR (if us.length < sizeLine then _ else _) Q X = (us.length < sizeLine ∧ _)
              by_cases h : us.length < sizeLine
              · rw [if_pos h]; simp only [h, true_and]; rfl
              · rw [if_neg h]; refine propext ⟨fun z => z.elim, fun z => h z.1⟩
            | _ => rfl
def kTix2 (x : T) (Q : T → Env → Prop) : T → Env → Prop := fun y e => OptP (tixT x y) (kAt Q e)
theorem k_tix2 {x y : T} : kTix2 x Q y e = OptP (tixT x y) (kAt Q e) := rfl
def kTix1 (b : E) (Q : T → Env → Prop) (X : Exc → Env → Prop) : T → Env → Prop := fun x e => isTup x = true ∧ SatR (b e) (kTix2 x Q) X
theorem k_tix1 {b : E} {x : T} : kTix1 b Q X x e = (isTup x = true ∧ SatR (b e) (kTix2 x Q) X) := rfl
theorem w_tixE {a b : E} : SatR (tixE a b e) Q X = SatR (a e) (kTix1 b Q X) X := by
  unfold tixE
  rw [satR_bind]
  congr 1
  funext x e1
  unfold kTix1
  by_cases h : isTup x = true
  · rw [if_pos h]
    simp only [h, true_and, satR_bind, satR_optR]
    rfl
  · rw [if_neg h]; refine propext ⟨fun z => z.elim, fun z => h z.1⟩
theorem e_dct0 {kvs : List (Key × T)} : dctAt (some (.odc kvs) :: e) 0 = some kvs := rfl
theorem e_dctS {t : Option T} {i : Nat} : dctAt (t :: e) (i + 1) = dctAt e i := rfl
theorem e_key_s {s : Str} : keyOf (.str s) = some (.inr s) := rfl
theorem e_key_i {i : Int} : keyOf (.int i) = some (.inl i) := rfl
theorem e_dg {kvs : List (Key × T)} {k : T} : dgT (.odc kvs) k = (keyOf k).bind fun k => gvK kvs k := rfl
theorem e_zip {ts us : List T} : zipT [.tup ts, .tup us] = some (zipL ts us) := rfl
theorem e_gTpy {n : Nat} {f : List T → Env → Option Env} {ts : List T} : gTp n f (.yt ts) e = if ts.length = n then f ts e else none := rfl
theorem e_gTpl {n : Nat} {f : List T → Env → Option Env} {ts : List T} : gTp n f (.lst ts) e = if ts.length = n then f ts e else none := rfl
theorem e_gTp {n : Nat} {f : List T → Env → Option Env} {ts : List T} : gTp n f (.tup ts) e = if ts.length = n then f ts e else none := rfl
theorem e_gN0 : gNil0 [] e = some e := rfl
theorem e_gN1 {f : T → Env → Option Env} {g : List T → Env → Option Env} {t : T} {ts : List T} : gCons0 f g (t :: ts) e = (f t e).bind fun e1 => g ts e1 := by
  rfl
theorem e_isTup {ts : List T} : isTup (.tup ts) = true := rfl
end
end Mir
namespace Mir
open PySem PySem.Spec L2
section
variable {Q : T → Env → Prop} {Qs : List T → Env → Prop} {X : Exc → Env → Prop} {D : OD} {e : Env}
def kLix2 (x : T) (Q : T → Env → Prop) : T → Env → Prop := fun y e => OptP (lixT x y) (kAt Q e)
theorem k_lix2 {x y : T} : kLix2 x Q y e = OptP (lixT x y) (kAt Q e) := rfl
def kLix1 (b : E) (Q : T → Env → Prop) (X : Exc → Env → Prop) : T → Env → Prop := fun x e => (alist? x).isSome = true ∧ SatR (b e) (kLix2 x Q) X
theorem k_lix1 {b : E} {x : T} : kLix1 b Q X x e = ((alist? x).isSome = true ∧ SatR (b e) (kLix2 x Q) X) := rfl
theorem w_lixE {a b : E} : SatR (lixE a b e) Q X = SatR (a e) (kLix1 b Q X) X := by
  unfold lixE
  rw [satR_bind]
  congr 1
  funext x e1
  unfold kLix1
  by_cases h : (alist? x).isSome = true
  · rw [if_pos h]
    simp only [h, true_and, satR_bind, satR_optR]
    rfl
  · rw [if_neg h]; refine propext ⟨fun z => z.elim, fun z => h z.1⟩
def kItl (Qs : List T → Env → Prop) : T → Env → Prop := fun x e => OptP (alist? x) (kAt Qs e)
theorem k_itl {x : T} : kItl Qs x e = OptP (alist? x) (kAt Qs e) := rfl
theorem w_itl {m : E} : SatR (itl m e) Qs X = SatR (m e) (kItl Qs) X := by unfold itl; simp only [satR_bind, satR_optR]; rfl
def kCnt2 (x : T) (Q : T → Env → Prop) : T → Env → Prop := fun y e => OptP (cntT x y) (kAt Q e)
theorem k_cnt2 {x y : T} : kCnt2 x Q y e = OptP (cntT x y) (kAt Q e) := rfl
def kCnt1 (b : E) (Q : T → Env → Prop) (X : Exc → Env → Prop) : T → Env → Prop := fun x e => (alist? x).isSome = true ∧ SatR (b e) (kCnt2 x Q) X
theorem k_cnt1 {b : E} {x : T} : kCnt1 b Q X x e = ((alist? x).isSome = true ∧ SatR (b e) (kCnt2 x Q) X) := rfl
theorem w_cntE {a b : E} : SatR (cntE a b e) Q X = SatR (a e) (kCnt1 b Q X) X := by
  unfold cntE
  rw [satR_bind]
  congr 1
  funext x e1
  unfold kCnt1
  by_cases h : (alist? x).isSome = true
  · rw [if_pos h]
    simp only [h, true_and, satR_bind, satR_optR]
    rfl
  · rw [if_neg h]; refine propext ⟨fun z => z.elim, fun z => h z.1⟩
theorem w_reverse {i : Nat} : SatR (reverseE i e) Q X = OptP (ownAt e i) fun ts => noOwns ts = true ∧ Q .non (e.set i (some (.own ts.reverse))) := by
  unfold reverseE
  cases ownAt e i with
  | none => rfl
  | some us => exact (satR_ite).trans ite_false_and
def kExt (i : Nat) (Q : T → Env → Prop) : T → Env → Prop := fun t e => OptP (ownAt e i) fun ts => OptP (list? t) fun us => ts.length + us.length ≤ sizeLine ∧ Q .non (e.set i (some (.own (ts ++ us))))
theorem k_ext {i : Nat} {t : T} : kExt i Q t e = OptP (ownAt e i) fun ts => OptP (list? t) fun us => ts.length + us.length ≤ sizeLine ∧ Q .non (e.set i (some (.own (ts ++ us)))) := rfl
theorem w_extend {i : Nat} {m : E} : SatR (extendE i m e) Q X = OptP (ownAt e i) fun _ => SatR (m e) (kExt i Q) X := by
  unfold extendE
  cases ownAt e i with
  | none => rfl
  | some us0 =>
    simp only [satR_bind, optP_some]
    congr 1; funext t e1
    rw [k_ext]
    cases ownAt e1 i with
    | none => rfl
    | some ts =>
      rw [optP_some]
      cases list? t with
      | none => rfl
      | some us => exact (satR_ite).trans ite_false_and
def kStar2 (ts : List T) (Qs : List T → Env → Prop) : List T → Env → Prop := fun xs e => Qs (ts ++ xs) e
theorem k_star2 {ts xs : List T} : kStar2 ts Qs xs e = Qs (ts ++ xs) e := rfl
def kStar1 (r : A) (Qs : List T → Env → Prop) (X : Exc → Env → Prop) : T → Env → Prop := fun x e => OptP (flat? x) fun ts => SatR (r e) (kStar2 ts Qs) X
theorem k_star1 {r : A} {x : T} : kStar1 r Qs X x e = OptP (flat? x) fun ts => SatR (r e) (kStar2 ts Qs) X := rfl
theorem w_starA {a : E} {r : A} : SatR (starA a r e) Qs X = SatR (a e) (kStar1 r Qs X) X := by
  unfold starA
  rw [satR_bind]
  congr 1
  funext x e1
  rw [k_star1]
  cases flat? x with
  | none => rfl
  | some ts => simp only [satR_bind, optP_some]; rfl
end
theorem forG {α : Type} {f : α → T} {g : T → Env → Option Env} {b : S} {D : OD} {e : Env} (xs : List α) (I : List α → Env → Prop) (h0 : I [] e)
    (step : ∀ dn a td, xs = dn ++ a :: td → ∀ e, I dn e → OptP (g (f a) e) fun e1 => SatO (b e1) ⟨I (dn ++ [a]), D.rt, D.nx, I (dn ++ [a]), D.ex⟩)
    (fin : ∀ e, I xs e → D.nx e) : SatO (forL g b (xs.map f) e) D := by
  refine forL_inv (fun rest e => ∃ dn td, xs = dn ++ td ∧ rest = td.map f ∧ I dn e) ?_ ?_ _ _ ⟨[], xs, rfl, rfl, h0⟩
  · rintro t ts e ⟨dn, td, e1, e2, hi⟩
    cases td with
    | nil => cases e2
    | cons a td =>
      injection e2 with e2 e3
      subst e2 e3
      have := step dn a td e1 e hi
      revert this
      cases g (f a) e with
      | none => exact fun z => z
      | some e4 => exact fun z => satO_mono z (fun e q => ⟨dn ++ [a], td, by rw [e1]; simp, rfl, q⟩) (fun _ _ q => q) (fun _ q => q) (fun e q => ⟨dn ++ [a], td, by rw [e1]; simp, rfl, q⟩) fun _ _ q => q
  · rintro e ⟨dn, td, e1, e2, hi⟩
    cases td with
    | cons a td => cases e2
    | nil =>
      rw [List.append_nil] at e1
      subst e1
      exact fin e hi
theorem forE {α : Type} {f : α → T} {i : Nat} {b : S} {D : OD} {e : Env} (xs : List α) (I : List α → Env → Prop) (h0 : I [] e)
    (step : ∀ dn a td, xs = dn ++ a :: td → ∀ e, I dn e → SatO (b (e.set i (some (f a)))) ⟨I (dn ++ [a]), D.rt, D.nx, I (dn ++ [a]), D.ex⟩)
    (fin : ∀ e, I xs e → D.nx e) : SatO (forL (gNm i) b (xs.map f) e) D :=
  forG xs I h0 (fun dn a td e1 e hi => step dn a td e1 e hi) fin
theorem lcE {α : Type} {f : α → T} {i : Nat} {tt : C} {te : E} {e : Env} {Q : List T → Env → Prop} {X : Exc → Env → Prop} (p : α → Bool) (g : α → T) (xs : List α) (hw : e.set i none = e) (hn : ∀ a ∈ xs, noOwn (f a) = true) (hl : xs.length ≤ sizeLine)
    (h : ∀ a ∈ xs, SatR (tt (e.set i (some (f a)))) (fun b e2 => e2 = e.set i (some (f a)) ∧ b = p a) X0)
    (h2 : ∀ a ∈ xs, p a = true → SatR (te (e.set i (some (f a)))) (fun y e2 => e2 = e.set i (some (f a)) ∧ y = g a) X0)
    (q : Q ((xs.filter p).map g) e) : SatR (lcL (gNm i) tt te [i] (xs.map f) [] e) Q X := by
  refine lcL_inv (fun rest acc e' => ∃ dn td, xs = dn ++ td ∧ rest = td.map f ∧ acc = (dn.filter p).map g ∧ e' = e) ?_ ?_ _ _ _ ⟨[], xs, rfl, rfl, rfl, rfl⟩
  · rintro t rest acc e' ⟨dn, td, e1, e3, rfl, rfl⟩
    cases td with
    | nil => cases e3
    | cons a td =>
      injection e3 with e3 e4
      subst e3 e4
      have hm : a ∈ xs := by rw [e1]; simp
      show SatR (tt (e'.set i (some (f a)))) _ X0
      refine satR_mono (h a hm) (fun b e2 => ?_) fun _ _ z => z
      rintro ⟨rfl, rfl⟩
      have hwp : wipeE (e'.set i (some (f a))) [i] = e' := by
        show (e'.set i _).set i none = e'
        rw [set_twice, hw]
      have hc : calmAt (e'.set i (some (f a))) [i] = true := calm_one (hn a hm)
      have e2 : xs.length = dn.length + (td.length + 1) := by rw [e1, List.length_append]; rfl
      cases hp : p a with
      | false =>
        rw [if_neg Bool.false_ne_true]
        refine ⟨hc, dn ++ [a], td, by rw [e1]; simp, rfl, ?_, hwp⟩
        rw [List.filter_append, List.map_append]
        simp [hp]
      | true =>
        rw [if_pos rfl]
        refine satR_mono (h2 a hm hp) (fun y e3 => ?_) fun _ _ z => z
        rintro ⟨rfl, rfl⟩
        have lf : (dn.filter p).length ≤ dn.length := List.length_filter_le _ _
        refine ⟨by rw [List.length_map]; omega, hc, dn ++ [a], td, by rw [e1]; simp, rfl, ?_, hwp⟩
        rw [List.filter_append, List.map_append]
        simp [hp]
  · rintro acc e' ⟨dn, td, e1, e3, rfl, rfl⟩
    cases td with
    | cons a td => cases e3
    | nil =>
      rw [List.append_nil] at e1
      subst e1
      exact q
theorem lcM1 {α : Type} {f : α → T} {i : Nat} {te : E} {e : Env} {Q : List T → Env → Prop} {X : Exc → Env → Prop} (g : α → T) (xs : List α) (hw : e.set i none = e) (hn : ∀ a ∈ xs, noOwn (f a) = true) (hl : xs.length ≤ sizeLine)
    (h2 : ∀ a ∈ xs, SatR (te (e.set i (some (f a)))) (fun y e2 => e2 = e.set i (some (f a)) ∧ y = g a) X0)
    (q : Q (xs.map g) e) : SatR (lcL (gNm i) yesC te [i] (xs.map f) [] e) Q X :=
  lcE (fun _ => true) g xs hw hn hl (fun a ha => ⟨rfl, rfl⟩) (fun a ha _ => h2 a ha) (by rw [show xs.filter (fun _ => true) = xs from List.filter_eq_self.mpr fun _ _ => rfl]; exact q)
theorem satF_ex {x : Exc} {ts : List T} {Q : T → List T → Prop} {X : Exc → List T → Prop} : SatF (.ex x ts) Q X = X x ts := rfl
theorem okR0 {xs : List (Option T)} {t : T} : okR 0 xs t [] = (noLst t || noOwnX xs) := by
  unfold okR
  show (true && ((noLst t && true) || noOwnX xs)) = _
  rw [Bool.true_and, Bool.and_true]
theorem okX0 {xs : List (Option T)} {x : Exc} : okX 0 xs x [] = (noLstF x.fields || noOwnX xs) := by
  unfold okX
  show (true && ((noLstF x.fields && true) || noOwnX xs)) = _
  rw [Bool.true_and, Bool.and_true]
theorem nox0 : noOwnX [] = true := rfl
theorem nox1 {t : T} {xs : List (Option T)} : noOwnX (some t :: xs) = (noOwn t && noOwnX xs) := rfl
theorem nox2 {xs : List (Option T)} : noOwnX (none :: xs) = noOwnX xs := rfl
theorem nlF0 : noLstF [] = true := rfl
theorem nlF1 {s : Str} {t : T} {l : List (Str × T)} : noLstF ((s, t) :: l) = (noLst t && noLstF l) := rfl
theorem SatF.eqx {r : FR} {x : Exc} {ts : List T} (h : SatF r (fun _ _ => False) (fun u us => u = x ∧ us = ts)) : r = .ex x ts := by
  cases r with
  | ok u us => exact h.elim
  | ex y us => obtain ⟨rfl, rfl⟩ := h; rfl
  | no => exact h.elim
theorem nl_n : noLst .non = true := rfl
theorem nl_b {b : Bool} : noLst (.bl b) = true := rfl
theorem nl_i {i : Int} : noLst (.int i) = true := rfl
theorem nl_s {s : Str} : noLst (.str s) = true := rfl
theorem nl_tup {ts : List T} : noLst (.tup ts) = noLsts ts := by rfl
theorem nl_own {ts : List T} : noLst (.own ts) = noLsts ts := by rfl
theorem nl_0 : noLsts [] = true := rfl
theorem nl_1 {t : T} {ts : List T} : noLsts (t :: ts) = (noLst t && noLsts ts) := rfl
theorem nl_map {α : Type} {f : α → T} (h : ∀ a, noLst (f a) = true) : ∀ l : List α, noLsts (l.map f) = true
  | [] => rfl
  | a :: l => by
    show (noLst (f a) && noLsts (l.map f)) = true
    rw [h a, nl_map h l]; rfl
theorem SatF.ok {r : FR} {t : T} {ts : List T} (h : r = .ok t ts) {Q : T → List T → Prop} {X : Exc → List T → Prop} (q : Q t ts) : SatF r Q X := by rw [h]; exact q
theorem e_isi2_tup {ts : List T} : isiT2 "tuple" "list" (.tup ts) = some (.bl true) := by
  have a : kitB "tuple" "tuple" = some true := by decide +kernel
  have b : kitB "tuple" "list" = some false := by decide +kernel
  show ((kitB "tuple" "tuple").bind fun b1 => (kitB "tuple" "list").map fun b2 => T.bl (b1 || b2)) = _
  rw [a, b]; rfl
theorem e_isi2_lst {ts : List T} : isiT2 "tuple" "list" (.lst ts) = some (.bl true) := by
  have a : kitB "list" "tuple" = some false := by decide +kernel
  have b : kitB "list" "list" = some true := by decide +kernel
  show ((kitB "list" "tuple").bind fun b1 => (kitB "list" "list").map fun b2 => T.bl (b1 || b2)) = _
  rw [a, b]; rfl
theorem e_isi2_non : isiT2 "tuple" "list" .non = some (.bl false) := by
  have a : kitB "NoneType" "tuple" = some false := by decide +kernel
  have b : kitB "NoneType" "list" = some false := by decide +kernel
  show ((kitB "NoneType" "tuple").bind fun b1 => (kitB "NoneType" "list").map fun b2 => T.bl (b1 || b2)) = _
  rw [a, b]; rfl
theorem e_isi2_str {s : Str} : isiT2 "tuple" "list" (.str s) = some (.bl false) := by
  have a : kitB "str" "tuple" = some false := by decide +kernel
  have b : kitB "str" "list" = some false := by decide +kernel
  show ((kitB "str" "tuple").bind fun b1 => (kitB "str" "list").map fun b2 => T.bl (b1 || b2)) = _
  rw [a, b]; rfl
theorem e_isi2_int {i : Int} : isiT2 "tuple" "list" (.int i) = some (.bl false) := by
  have a : kitB "int" "tuple" = some false := by decide +kernel
  have b : kitB "int" "list" = some false := by decide +kernel
  show ((kitB "int" "tuple").bind fun b1 => (kitB "int" "list").map fun b2 => T.bl (b1 || b2)) = _
  rw [a, b]; rfl
theorem e_isi2_bl {i : Bool} : isiT2 "tuple" "list" (.bl i) = some (.bl false) := by
  have a : kitB "bool" "tuple" = some false := by decide +kernel
  have b : kitB "bool" "list" = some false := by decide +kernel
  show ((kitB "bool" "tuple").bind fun b1 => (kitB "bool" "list").map fun b2 => T.bl (b1 || b2)) = _
  rw [a, b]; rfl
theorem noOwns_map {α : Type} {f : α → T} (h : ∀ a, noOwn (f a) = true) : ∀ l : List α, noOwns (l.map f) = true
  | [] => rfl
  | a :: l => by
    show (noOwn (f a) && noOwns (l.map f)) = true
    rw [h a, noOwns_map h l]; rfl
theorem alist_map {α : Type} {f : α → T} (h : ∀ a, noOwn (f a) = true) (l : List α) : alist? (.own (l.map f)) = some (l.map f) := by
  show (if noOwns (l.map f) then some (l.map f) else none) = _
  rw [noOwns_map h l]; rfl
theorem flat_map {α : Type} {f : α → T} (h : ∀ a, noOwn (f a) = true) (l : List α) : flat? (.own (l.map f)) = some (l.map f) := by
  show (if noOwns (l.map f) then some (l.map f) else none) = _
  rw [noOwns_map h l]; rfl
theorem list_map {α : Type} {f : α → T} (h : ∀ a, noOwn (f a) = true) (l : List α) : list? (.own (l.map f)) = some (l.map f) := by
  show (if noOwns (l.map f) then some (l.map f) else none) = _
  rw [noOwns_map h l]; rfl
theorem its_map {α : Type} {f : α → T} (h : ∀ a, noOwn (f a) = true) (l : List α) : itsT (.own (l.map f)) = some (l.map f) := by
  show (if noOwns (l.map f) then some (l.map f) else none) = _
  rw [noOwns_map h l]; rfl
theorem tup_map {α : Type} {f : α → T} (h : ∀ a, noOwn (f a) = true) (l : List α) : tupT (.own (l.map f)) = some (.tup (l.map f)) := by
  show (alist? (.own (l.map f))).map T.tup = _
  rw [alist_map h l]; rfl
def kLcT (f : T → Env → Option Env) (tt : C) (it1 : A) (f1 : T → Env → Option Env) (tt1 : C) (te : E) (vs vs1 : List Nat) (Q : T → Env → Prop) (X : Exc → Env → Prop) : List T → Env → Prop := fun its e1 => calmL e1 vs = true ∧ SatR (lc2L f tt it1 f1 tt1 te vs vs1 its [] (wipeE e1 vs)) (kLc2 vs e1 Q) X
theorem k_lcT {f : T → Env → Option Env} {tt : C} {it1 : A} {f1 : T → Env → Option Env} {tt1 : C} {te : E} {vs vs1 : List Nat} {Q : T → Env → Prop} {X : Exc → Env → Prop} {xs : List T} {e : Env} : kLcT f tt it1 f1 tt1 te vs vs1 Q X xs e = (calmL e vs = true ∧ SatR (lc2L f tt it1 f1 tt1 te vs vs1 xs [] (wipeE e vs)) (kLc2 vs e Q) X) := rfl
theorem w_lc2M {it : A} {f : T → Env → Option Env} {tt : C} {it1 : A} {f1 : T → Env → Option Env} {tt1 : C} {te : E} {vs vs1 : List Nat} {Q : T → Env → Prop} {X : Exc → Env → Prop} {e : Env} : SatR (lc2M it f tt it1 f1 tt1 te vs vs1 e) Q X = SatR (it e) (kLcT f tt it1 f1 tt1 te vs vs1 Q X) X := by
  unfold lc2M; simp only [satR_bind, satR_ite, satR_ok]
  congr 1; funext ts e1; exact ite_false_and
section
variable {Q : T → Env → Prop} {X : Exc → Env → Prop} {e : Env}
def kJn2 (x : T) (Q : T → Env → Prop) : T → Env → Prop := fun y e => OptP (jnT x y) (kAt Q e)
theorem k_jn2 {x y : T} : kJn2 x Q y e = OptP (jnT x y) (kAt Q e) := rfl
def kJn1 (b : E) (Q : T → Env → Prop) (X : Exc → Env → Prop) : T → Env → Prop := fun x e => isSt x = true ∧ SatR (b e) (kJn2 x Q) X
theorem k_jn1 {b : E} {x : T} : kJn1 b Q X x e = (isSt x = true ∧ SatR (b e) (kJn2 x Q) X) := rfl
theorem w_joinE {a b : E} : SatR (joinE a b e) Q X = SatR (a e) (kJn1 b Q X) X := by
  unfold joinE
  rw [satR_bind]
  congr 1
  funext x e1
  unfold kJn1
  by_cases h : isSt x = true
  · rw [if_pos h]
    simp only [h, true_and, satR_bind, satR_optR]
    rfl
  · rw [if_neg h]; refine propext ⟨fun z => z.elim, fun z => h z.1⟩
theorem e_isSt {s : Str} : isSt (.str s) = true := rfl
end
def kZ3 (Qs : List T → Env → Prop) : List T → Env → Prop := fun xs e => OptP (zip3T xs) (kAt Qs e)
theorem k_zip3 {Qs : List T → Env → Prop} {xs : List T} {e : Env} : kZ3 Qs xs e = OptP (zip3T xs) (kAt Qs e) := rfl
theorem w_zip3M {m : A} {Qs : List T → Env → Prop} {X : Exc → Env → Prop} {e : Env} : SatR (zip3M m e) Qs X = SatR (m e) (kZ3 Qs) X := by unfold zip3M; simp only [satR_bind, satR_optR]; rfl
theorem e_zip3 {ts us vs : List T} : zip3T [.tup ts, .tup us, .tup vs] = some (zipL3 ts us vs) := rfl
def kEn (Qs : List T → Env → Prop) : List T → Env → Prop := fun xs e => OptP (enT xs) (kAt Qs e)
theorem k_en {Qs : List T → Env → Prop} {xs : List T} {e : Env} : kEn Qs xs e = OptP (enT xs) (kAt Qs e) := rfl
theorem w_enM {m : A} {Qs : List T → Env → Prop} {X : Exc → Env → Prop} {e : Env} : SatR (enM m e) Qs X = SatR (m e) (kEn Qs) X := by unfold enM; simp only [satR_bind, satR_optR]; rfl
theorem e_en {ts : List T} : enT [.tup ts] = some (enL 0 ts) := rfl
def kD2 (x : T) (Q : T → Env → Prop) : T → Env → Prop := fun y e => OptP (keyOf x) fun ky => noOwn y = true ∧ Q (.odc [(ky, y)]) e
theorem k_d2 {x y : T} {Q : T → Env → Prop} {e : Env} : kD2 x Q y e = OptP (keyOf x) fun ky => noOwn y = true ∧ Q (.odc [(ky, y)]) e := rfl
def kD1 (v : E) (Q : T → Env → Prop) (X : Exc → Env → Prop) : T → Env → Prop := fun x e => SatR (v e) (kD2 x Q) X
theorem k_d1 {v : E} {x : T} {Q : T → Env → Prop} {X : Exc → Env → Prop} {e : Env} : kD1 v Q X x e = SatR (v e) (kD2 x Q) X := rfl
theorem w_disp1 {k v : E} {Q : T → Env → Prop} {X : Exc → Env → Prop} {e : Env} : SatR (disp1 k v e) Q X = SatR (k e) (kD1 v Q X) X := by
  unfold disp1
  rw [satR_bind]
  congr 1; funext x e1
  rw [k_d1, satR_bind]
  congr 1; funext y e2
  rw [k_d2]
  cases keyOf x with
  | none => rfl
  | some ky => exact (satR_ite).trans ite_false_and
theorem o_lrg {n : Int} {Q : T → Prop} : OptP (lrgT (.int n)) Q = (n.natAbs ≤ 16777216 ∧ Q (.own ((List.range n.toNat).map fun i => .int (i : Nat)))) := optP_if
theorem e_revt {ts : List T} : revT (.tup ts) = some (.tup ts.reverse) := rfl
theorem e_lid {kvs : List (Key × T)} : lidT (.odc kvs) = some (.own (kvs.map fun kv => keyT kv.1)) := rfl
end Mir
namespace Mir
open PySem PySem.Spec L2
def wAll := And.intro @big_eq <| And.intro @w_fnM <| And.intro @w_seq <| And.intro @w_skip <| And.intro @w_brk <| And.intro @w_cnt <| And.intro @w_ret <| And.intro @w_retN <| And.intro @w_exp <| And.intro @w_ifS <| And.intro @w_asg <| And.intro @w_setIx <| And.intro @w_forS <| And.intro @w_var <| And.intro @w_con <| And.intro @w_frzv <| And.intro @w_settle <| And.intro @w_frzE <| And.intro @w_nilA <| And.intro @w_consA <| And.intro @w_bin <| And.intro @w_una <| And.intro @w_cal <| And.intro @w_tru <| And.intro @w_notC <| And.intro @w_andC <| And.intro @w_orC <| And.intro @w_yesC <| And.intro @w_ifE <| And.intro @w_andE <| And.intro @w_orE <| And.intro @w_notE <| And.intro @w_tupE <| And.intro @w_lstE <| And.intro @w_noI <| And.intro @w_soI <| And.intro @w_slE <| And.intro @w_append <| And.intro @w_pop <| And.intro @w_insert <| And.intro @w_itm <| And.intro @w_rng <| And.intro @w_lcM <| And.intro @w_isxE <| And.intro @w_fldE <| And.intro @w_raiseS <| And.intro @w_tryE <| And.intro @w_outM <| And.intro @w_fnX <| And.intro @k_rse <| And.intro @k_try <| And.intro @w_popAt <| And.intro @k_popA <| And.intro @k_popB <| And.intro @w_augI <| And.intro @k_aug <| And.intro @e_intAt0 <| And.intro @e_intAtS <| And.intro @e_intT <| And.intro @e_abs <| And.intro @e_pow19 <| And.intro @w_as0 <| And.intro @w_asv <| And.intro @w_ass <| And.intro @w_callE <| And.intro @w_callK <| And.intro @w_callR <| And.intro @satR_ok <| And.intro @satR_bind <| And.intro @satR_optR <| And.intro @satR_ite <| And.intro @satO_nx <| And.intro @satO_rt <| And.intro @satO_ite <| And.intro @optP_some <| And.intro @optP_none <| And.intro @optP_ite <| And.intro @optP_map <| And.intro @optP_bind <| And.intro @w_out0 <| And.intro @w_out1 <| And.intro @satF_ok <| And.intro @k_at <| And.intro @k_frzv <| And.intro @k_settle <| And.intro @k_frz <| And.intro @k_cons2 <| And.intro @k_cons <| And.intro @k_op <| And.intro @k_bin <| And.intro @k_tru <| And.intro @k_not <| And.intro @k_and <| And.intro @k_or <| And.intro @k_ifE <| And.intro @k_andE <| And.intro @k_andE1 <| And.intro @k_orE <| And.intro @k_orE1 <| And.intro @k_tup <| And.intro @k_lst <| And.intro @k_int <| And.intro @k_sl2 <| And.intro @k_sl1 <| And.intro @k_sl <| And.intro @k_app2 <| And.intro @k_app1 <| And.intro @k_app <| And.intro @k_pop2 <| And.intro @k_pop <| And.intro @k_ins3 <| And.intro @k_ins2 <| And.intro @k_ins1 <| And.intro @k_ins0 <| And.intro @k_ins <| And.intro @k_it <| And.intro @k_rng <| And.intro @k_lc2 <| And.intro @k_lc <| And.intro @k_as2 <| And.intro @k_as1 <| And.intro @k_ret <| And.intro @k_thr <| And.intro @k_call2 <| And.intro @k_call <| And.intro @k_callK <| And.intro @k_nx <| And.intro @k_ifS <| And.intro @k_asg <| And.intro @k_set3 <| And.intro @k_set2i <| And.intro @k_set1 <| And.intro @k_set0 <| And.intro @k_for <| And.intro @k_end <| And.intro @k_endT <| And.intro @k_out <| And.intro @e_add_i <| And.intro @e_sub_i <| And.intro @o_mul <| And.intro @o_mod <| And.intro @o_div <| And.intro @e_neg <| And.intro @e_lt_i <| And.intro @e_le <| And.intro @e_gt <| And.intro @e_ge <| And.intro @e_eq_i <| And.intro @e_ne_i <| And.intro @e_tru_b <| And.intro @e_tru_i <| And.intro @e_ix_own <| And.intro @e_ix_tup <| And.intro @e_ix_lst <| And.intro @e_len_own <| And.intro @e_len_lst <| And.intro @e_len_tup <| And.intro @e_int_i <| And.intro @e_own <| And.intro @e_at_own <| And.intro @e_fill0 <| And.intro @e_fillv <| And.intro @e_fills <| And.intro @e_links0 <| And.intro @e_linksv <| And.intro @e_linkss <| And.intro @e_put0 <| And.intro @e_put1 <| And.intro @e_intOf <| And.intro @e_frz_i <| And.intro @e_frz_b <| And.intro @e_frz_s <| And.intro @e_frz_n <| And.intro @e_frz_own <| And.intro @e_frzs0 <| And.intro @e_frzs1 <| And.intro @e_frz_lst <| And.intro @e_frz_tup <| And.intro @e_gNm <| And.intro @e_bl <| And.intro @e_noOwn_i <| And.intro @e_noOwn_s <| And.intro @e_noOwn_b <| And.intro @e_noOwn_n <| And.intro @e_noOwn_tup <| And.intro @e_noOwn_lst <| And.intro @e_f1 <| And.intro @e_f2 <| And.intro @e_isi_non_str <| And.intro @e_isi_non_int <| And.intro @e_isi_non_bool <| And.intro @e_isi_non_tuple <| And.intro @e_isi_non_list <| And.intro @e_isi_non_dict <| And.intro @e_isi_bl_str <| And.intro @e_isi_bl_int <| And.intro @e_isi_bl_bool <| And.intro @e_isi_bl_tuple <| And.intro @e_isi_bl_list <| And.intro @e_isi_bl_dict <| And.intro @e_isi_int_str <| And.intro @e_isi_int_int <| And.intro @e_isi_int_bool <| And.intro @e_isi_int_tuple <| And.intro @e_isi_int_list <| And.intro @e_isi_int_dict <| And.intro @e_isi_str_str <| And.intro @e_isi_str_int <| And.intro @e_isi_str_bool <| And.intro @e_isi_str_tuple <| And.intro @e_isi_str_list <| And.intro @e_isi_str_dict <| And.intro @e_isi_tup_str <| And.intro @e_isi_tup_int <| And.intro @e_isi_tup_bool <| And.intro @e_isi_tup_tuple <| And.intro @e_isi_tup_list <| And.intro @e_isi_tup_dict <| And.intro @e_isi_lst_str <| And.intro @e_isi_lst_int <| And.intro @e_isi_lst_bool <| And.intro @e_isi_lst_tuple <| And.intro @e_isi_lst_list <| And.intro @e_isi_lst_dict <| And.intro @e_isi_own_str <| And.intro @e_isi_own_int <| And.intro @e_isi_own_bool <| And.intro @e_isi_own_tuple <| And.intro @e_isi_own_list <| And.intro @e_isi_own_dict <| And.intro @e_isi_rol_str <| And.intro @e_isi_rol_int <| And.intro @e_isi_rol_bool <| And.intro @e_isi_rol_tuple <| And.intro @e_isi_rol_list <| And.intro @e_isi_rol_dict <| And.intro @e_isi_dct_str <| And.intro @e_isi_dct_int <| And.intro @e_isi_dct_bool <| And.intro @e_isi_dct_tuple <| And.intro @e_isi_dct_list <| And.intro @e_isi_dct_dict <| And.intro @e_isi_odc_str <| And.intro @e_isi_odc_int <| And.intro @e_isi_odc_bool <| And.intro @e_isi_odc_tuple <| And.intro @e_isi_odc_list <| And.intro @e_isi_odc_dict <| And.intro @e_in_ss <| And.intro @e_nin_ss <| And.intro @e_its_str <| And.intro @e_is_non <| And.intro @e_is_bl <| And.intro @e_isn_non <| And.intro @e_isn_bl <| And.intro @e_isBl <| And.intro @e_isNon_b <| And.intro @k_turn <| And.intro @e_at0 <| And.intro @e_at1 <| And.intro @e_at2 <| And.intro @e_at3 <| And.intro @e_at4 <| And.intro @e_ix0 <| And.intro @e_ix1 <| And.intro @e_ix2 <| And.intro @e_ix3 <| And.intro @e_ix4 <| And.intro @e_max <| And.intro @e_min <| And.intro @o_rng1 <| And.intro @o_rng2 <| And.intro @e_pow18 <| And.intro @e_pow20 <| And.intro @e_pow31 <| And.intro @e_pow63 <| And.intro @e_pow64 <| And.intro @e_calm0 <| And.intro @e_calmL <| And.intro @e_wipe0 <| And.intro @e_wipe1 <| And.intro @e_unwipe0 <| And.intro @e_unwipe1 <| And.intro @w_zipM <| And.intro @k_zip <| And.intro @w_asgG <| And.intro @k_ag <| And.intro @w_dputS <| And.intro @k_dput1 <| And.intro @k_dput2 <| And.intro @w_daugI <| And.intro @k_daug1 <| And.intro @k_daug2 <| And.intro @w_nappE <| And.intro @k_napp1 <| And.intro @k_napp2 <| And.intro @w_tixE <| And.intro @k_tix1 <| And.intro @k_tix2 <| And.intro @e_dct0 <| And.intro @e_dctS <| And.intro @e_key_s <| And.intro @e_key_i <| And.intro @e_dg <| And.intro @e_zip <| And.intro @e_gTpy <| And.intro @e_gTp <| And.intro @e_gN0 <| And.intro @e_gN1 <| And.intro @e_isTup <| And.intro @w_joinE <| And.intro @k_jn1 <| And.intro @k_jn2 <| And.intro @e_isSt <| And.intro @w_zip3M <| And.intro @k_zip3 <| And.intro @e_zip3 <| And.intro @e_lid <| And.intro @w_disp1 <| And.intro @k_d1 <| And.intro @k_d2 <| And.intro @o_lrg <| And.intro @e_revt <| And.intro @w_enM <| And.intro @k_en <| And.intro @e_en <| And.intro @e_gTpl <| And.intro @w_lc2M <| And.intro @k_lcT <| And.intro @w_cntE <| And.intro @k_cnt1 <| And.intro @k_cnt2 <| And.intro @w_reverse <| And.intro @k_itl <| And.intro @w_itl <| And.intro @satF_ex <| And.intro @okR0 <| And.intro @okX0 <| And.intro @nox0 <| And.intro @nox1 <| And.intro @nox2 <| And.intro @nlF0 <| And.intro @nlF1 <| And.intro @w_lixE <| And.intro @k_lix1 <| And.intro @k_lix2 <| And.intro @w_extend <| And.intro @k_ext <| And.intro @w_starA <| And.intro @k_star1 <| And.intro @k_star2 <| And.intro @nl_n <| And.intro @nl_b <| And.intro @nl_i <| And.intro @nl_s <| And.intro @nl_tup <| And.intro @nl_own <| And.intro @nl_0 <| And.intro @nl_1 <| And.intro @e_isi2_tup <| And.intro @e_isi2_lst <| And.intro @e_isi2_non <| And.intro @e_isi2_str <| And.intro @e_isi2_int <| And.intro @e_isi2_bl True.intro
end Mir
namespace Mir
open PySem PySem.Spec L2
noncomputable def b_first_repeated : S :=
  seq (asg 1 (con (.odc [])))
  (seq (forS (itm (var 0)) (gNm 2) (seq (ifS (tru (bin dinT (var 2) (var 1))) (ret (var 2)) (skip))
  (dputS 1 (var 2) (con (.bl true)))))
  (ret (con .non)))
noncomputable def m_first_repeated : F := fnM 3 [] b_first_repeated
noncomputable def b__law_store : S :=
  ret (lstE (consA (lcM (itm (var 0)) (gNm 1) (yesC) (cal (f1 intT) (consA (var 1) (nilA))) [1]) (consA (con (.int 0)) (consA (con (.int 0)) (consA (con (.int 0)) (consA (con (.int 0)) (nilA)))))))
noncomputable def m__law_store : F := fnM 2 [] b__law_store
noncomputable def b__law_take : S :=
  seq (ifS (tru (bin ltT (var 1) (con (.int 2)))) (ret (con (.int 0))) (skip))
  (seq (ifS (andC (tru (bin eqT (bin ixT (var 0) (con (.int 3))) (con (.int 0)))) (tru (bin ltT (bin ixT (var 0) (con (.int 1))) (cal (f1 lenT) (consA (bin ixT (var 0) (con (.int 0))) (nilA)))))) (seq (asg 4 (settle (bin ixT (bin ixT (var 0) (con (.int 0))) (bin ixT (var 0) (con (.int 1))))))
  (seq (setIx 0 (con (.int 1)) (bin addT (bin ixT (var 0) (con (.int 1))) (con (.int 1))))
  (seq (setIx 0 (con (.int 2)) (bin modT (cal (f1 intT) (consA (bin addT (bin addT (bin mulT (bin ixT (var 0) (con (.int 2))) (con (.int 31))) (var 4)) (con (.int 5))) (nilA))) (con (.int (big 1000003)))))
  (ifS (tru (bin geT (var 4) (bin powT (con (.int 10)) (con (.int 18))))) (setIx 0 (con (.int 3)) (settle (var 4))) (skip))))) (skip))
  (seq (ifS (tru (bin gtT (bin ixT (var 0) (con (.int 3))) (con (.int 0)))) (seq (asg 5 (bin modT (cal (f1 intT) (consA (bin ixT (var 0) (con (.int 3))) (nilA))) (var 1)))
  (seq (setIx 0 (con (.int 3)) (bin divT (bin ixT (var 0) (con (.int 3))) (var 1)))
  (ret (var 5)))) (skip))
  (seq (setIx 0 (con (.int 4)) (bin addT (bin ixT (var 0) (con (.int 4))) (con (.int 1))))
  (seq (asg 2 (bin modT (cal (f1 intT) (consA (bin addT (bin addT (bin mulT (bin ixT (var 0) (con (.int 2))) (con (.int 7919))) (bin mulT (bin ixT (var 0) (con (.int 4))) (con (.int (big 104729))))) (con (.int 17))) (nilA))) (con (.int (big 1000003)))))
  (seq (asg 3 (bin modT (cal (f1 intT) (consA (bin addT (bin mulT (bin addT (var 2) (con (.int 101))) (bin addT (bin divT (var 2) (con (.int 1000))) (con (.int 37)))) (var 2)) (nilA))) (con (.int (big 999983)))))
  (ret (bin modT (cal (f1 intT) (consA (var 3) (nilA))) (var 1))))))))
noncomputable def m__law_take : F := fnM 6 [0] b__law_take
noncomputable def b__law_same : S :=
  seq (asg 2 (lstE (consA (tupE (consA (settle (var 0)) (consA (settle (var 1)) (nilA)))) (nilA))))
  (seq (forS (rng (consA (con (.int (big 200000))) nilA)) (gNm 3) (seq (ifS (tru (bin eqT (cal (f1 lenT) (consA (var 2) (nilA))) (con (.int 0)))) (ret (con (.bl true))) (skip))
  (seq (asg 4 (popE 2))
  (seq (asg 5 (settle (bin ixT (var 4) (con (.int 0)))))
  (seq (asg 6 (settle (bin ixT (var 4) (con (.int 1)))))
  (ifS (orC (tru (una (isiT "tuple") (var 6))) (tru (una (isiT "list") (var 6)))) (seq (ifS (orC (andC (tru (una (isiT "tuple") (var 6))) (notC (tru (una (isiT "tuple") (var 5))))) (andC (tru (una (isiT "list") (var 6))) (notC (tru (una (isiT "list") (var 5)))))) (ret (con (.bl false))) (skip))
  (seq (ifS (tru (bin neT (cal (f1 lenT) (consA (var 5) (nilA))) (cal (f1 lenT) (consA (var 6) (nilA))))) (ret (con (.bl false))) (skip))
  (forS (rng (consA (cal (f1 lenT) (consA (var 6) (nilA))) nilA)) (gNm 7) (exp (appendE 2 (tupE (consA (settle (bin ixT (var 5) (var 7))) (consA (settle (bin ixT (var 6) (var 7))) (nilA))))))))) (ifS (tru (una (isiT "str") (var 6))) (ifS (orC (notC (tru (una (isiT "str") (var 5)))) (tru (bin neT (var 5) (var 6)))) (ret (con (.bl false))) (skip)) (ifS (tru (bin isT (var 6) (con .non))) (ifS (tru (bin isnT (var 5) (con .non))) (ret (con (.bl false))) (skip)) (ifS (orC (tru (bin isT (var 6) (con (.bl true)))) (tru (bin isT (var 6) (con (.bl false))))) (ifS (orC (andC (tru (bin isT (var 6) (con (.bl true)))) (tru (bin isnT (var 5) (con (.bl true))))) (andC (tru (bin isT (var 6) (con (.bl false)))) (tru (bin isnT (var 5) (con (.bl false)))))) (ret (con (.bl false))) (skip)) (ifS (orC (notC (tru (una (isiT "int") (var 5)))) (orC (tru (una (isiT "bool") (var 5))) (tru (bin neT (var 5) (var 6))))) (ret (con (.bl false))) (skip)))))))))))
  (ret (bin eqT (cal (f1 lenT) (consA (var 2) (nilA))) (con (.int 0)))))
noncomputable def m__law_same : F := fnM 8 [] b__law_same
noncomputable def b__law_error_more (x : Exc) : S :=
  seq (ifS (tru (isxE xtab x "BadText")) (exp (appendE 1 (tupE (consA (con (.str "BadText")) (consA (fldE xtab x "at") (nilA)))))) (skip))
  (seq (ifS (tru (isxE xtab x "NoRun")) (exp (appendE 1 (tupE (consA (con (.str "NoRun")) (consA (fldE xtab x "at") (consA (fldE xtab x "cause") (nilA))))))) (skip))
  (seq (ifS (tru (isxE xtab x "NothingLeft")) (exp (appendE 1 (tupE (consA (con (.str "NothingLeft")) (nilA))))) (skip))
  (seq (ifS (tru (isxE xtab x "BadClaim")) (exp (appendE 1 (tupE (consA (con (.str "BadClaim")) (nilA))))) (skip))
  (seq (ifS (tru (isxE xtab x "BadRow")) (exp (appendE 1 (tupE (consA (con (.str "BadRow")) (consA (fldE xtab x "index") (nilA)))))) (skip))
  (seq (ifS (orC (tru (bin neT (cal (f1 lenT) (consA (var 1) (nilA))) (con (.int 1)))) (orC (notC (tru (isxE xtab x "TurnError"))) (notC (tru (isxE xtab x "ValueError"))))) (ret (tupE (consA (con (.str "wrong")) (consA (cal (f1 lenT) (consA (var 1) (nilA))) (nilA))))) (skip))
  (ret (settle (bin ixT (var 1) (con (.int 0))))))))))
noncomputable def m__law_error_more : Exc → F := fnX 2 [1] b__law_error_more
noncomputable def b__law_twice : S :=
  seq (forS (rng (consA (cal (f1 lenT) (consA (var 0) (nilA))) nilA)) (gNm 1) (ifS (tru (bin inT (bin ixT (var 0) (var 1)) (slE (var 0) (noI) (soI (var 1))))) (ret (bin ixT (var 0) (var 1))) (skip)))
  (ret (con .non))
noncomputable def m__law_twice : F := fnM 2 [] b__law_twice
noncomputable def b__law_in_order : S :=
  seq (ifS (orC (notC (tru (una (isiT "list") (var 0)))) (tru (bin neT (cal (f1 lenT) (consA (var 0) (nilA))) (cal (f1 lenT) (consA (var 1) (nilA)))))) (ret (con (.bl false))) (skip))
  (seq (forS (rng (consA (cal (f1 lenT) (consA (var 0) (nilA))) nilA)) (gNm 2) (seq (ifS (orC (notC (tru (una (isiT "str") (bin ixT (var 0) (var 2))))) (tru (bin ninT (bin ixT (var 0) (var 2)) (var 1)))) (ret (con (.bl false))) (skip))
  (ifS (andC (tru (bin gtT (var 2) (con (.int 0)))) (notC (tru (bin ltT (bin ixT (var 0) (bin subT (var 2) (con (.int 1)))) (bin ixT (var 0) (var 2)))))) (ret (con (.bl false))) (skip))))
  (ret (con (.bl true))))
noncomputable def m__law_in_order : F := fnM 3 [] b__law_in_order
noncomputable def b__law_range : S :=
  ret (bin addT (var 1) (callE m__law_take [] [.s 0, .v (bin addT (bin subT (var 2) (var 1)) (con (.int 1)))]))
noncomputable def m__law_range : F := fnM 3 [0] b__law_range
noncomputable def b__law_seldom : S :=
  ret (bin eqT (callE m__law_take [] [.s 0, .v (var 1)]) (con (.int 1)))
noncomputable def m__law_seldom : F := fnM 2 [0] b__law_seldom
noncomputable def b__law_one : S :=
  ret (bin ixT (var 1) (callE m__law_take [] [.s 0, .v (cal (f1 lenT) (consA (var 1) (nilA)))]))
noncomputable def m__law_one : F := fnM 2 [0] b__law_one
noncomputable def b__law_seq : S :=
  seq (ifS (tru (bin eqT (callE m__law_take [] [.s 0, .v (con (.int 2))]) (con (.int 0)))) (ret (cal (f1 lisT) (consA (var 1) (nilA)))) (skip))
  (ret (cal (f1 tupT) (consA (var 1) (nilA))))
noncomputable def m__law_seq : F := fnM 2 [0] b__law_seq
noncomputable def b__law_error (x : Exc) : S :=
  seq (asg 1 (lstE (nilA)))
  (seq (ifS (tru (isxE xtab x "BadName")) (exp (appendE 1 (tupE (consA (con (.str "BadName")) (consA (fldE xtab x "name") (nilA)))))) (skip))
  (seq (ifS (tru (isxE xtab x "BadNumber")) (exp (appendE 1 (tupE (consA (con (.str "BadNumber")) (consA (fldE xtab x "number") (nilA)))))) (skip))
  (seq (ifS (tru (isxE xtab x "BadSize")) (exp (appendE 1 (tupE (consA (con (.str "BadSize")) (consA (fldE xtab x "what") (consA (fldE xtab x "size") (nilA))))))) (skip))
  (seq (ifS (tru (isxE xtab x "Repeated")) (exp (appendE 1 (tupE (consA (con (.str "Repeated")) (consA (fldE xtab x "name") (nilA)))))) (skip))
  (seq (ifS (tru (isxE xtab x "Unknown")) (exp (appendE 1 (tupE (consA (con (.str "Unknown")) (consA (fldE xtab x "what") (consA (fldE xtab x "name") (nilA))))))) (skip))
  (seq (ifS (tru (isxE xtab x "BadEnd")) (exp (appendE 1 (tupE (consA (con (.str "BadEnd")) (consA (fldE xtab x "way") (consA (fldE xtab x "place") (nilA))))))) (skip))
  (seq (ifS (tru (isxE xtab x "NoWalker")) (exp (appendE 1 (tupE (consA (con (.str "NoWalker")) (consA (fldE xtab x "place") (nilA)))))) (skip))
  (seq (ifS (tru (isxE xtab x "Occupied")) (exp (appendE 1 (tupE (consA (con (.str "Occupied")) (consA (fldE xtab x "place") (nilA)))))) (skip))
  (seq (ifS (tru (isxE xtab x "Unlike")) (exp (appendE 1 (tupE (consA (con (.str "Unlike")) (consA (fldE xtab x "what") (nilA)))))) (skip))
  (seq (ifS (tru (isxE xtab x "Named")) (exp (appendE 1 (tupE (consA (con (.str "Named")) (consA (fldE xtab x "names") (nilA)))))) (skip))
  (seq (ifS (tru (isxE xtab x "TooLarge")) (exp (appendE 1 (tupE (consA (con (.str "TooLarge")) (consA (fldE xtab x "what") (consA (fldE xtab x "size") (nilA))))))) (skip))
  (seq (ifS (tru (isxE xtab x "NoDeed")) (exp (appendE 1 (tupE (consA (con (.str "NoDeed")) (consA (fldE xtab x "index") (consA (fldE xtab x "way") (consA (fldE xtab x "cause") (nilA)))))))) (skip))
  (ret (callE (m__law_error_more x) [] [.s 1]))))))))))))))
noncomputable def m__law_error : Exc → F := fnX 2 [] b__law_error
noncomputable def b_ascending : S :=
  seq (asg 1 (callE m_first_repeated [] [.v (var 0)]))
  (seq (ifS (tru (bin isnT (var 1) (con .non))) (raiseS "Repeated" ["name"] (consA (settle (var 1)) (nilA))) (skip))
  (ret (cal (f1 srtD) (consA (var 0) (nilA)))))
noncomputable def m_ascending : F := fnM 2 [] b_ascending
noncomputable def b__law_upto : S :=
  seq (asg 3 (callE m__law_take [] [.s 0, .v (con (.int 6))]))
  (seq (ifS (tru (bin eqT (var 3) (con (.int 0)))) (ret (var 1)) (skip))
  (seq (ifS (tru (bin eqT (var 3) (con (.int 1)))) (ret (cal (f2 maxT) (consA (var 1) (consA (var 2) (nilA))))) (skip))
  (ret (callE m__law_range [] [.s 0, .v (var 1), .v (var 2)]))))
noncomputable def m__law_upto : F := fnM 4 [0] b__law_upto
noncomputable def b__law_name : S :=
  seq (asg 1 (con (.str "abcdefghijklmnopqrstuvwxyz")))
  (seq (asg 2 (bin addT (var 1) (con (.str "0123456789"))))
  (seq (asg 3 (callE m__law_take [] [.s 0, .v (con (.int 6))]))
  (seq (ifS (tru (bin eqT (var 3) (con (.int 0)))) (ret (bin ixT (var 1) (callE m__law_take [] [.s 0, .v (con (.int 26))]))) (skip))
  (seq (ifS (tru (bin eqT (var 3) (con (.int 1)))) (ret (bin addT (bin ixT (con (.str "abuwz")) (callE m__law_take [] [.s 0, .v (con (.int 5))])) (bin ixT (con (.str "0123456789")) (callE m__law_take [] [.s 0, .v (con (.int 10))])))) (skip))
  (seq (ifS (tru (bin eqT (var 3) (con (.int 2)))) (ret (callE m__law_one [] [.s 0, .v (lstE (consA (con (.str "by")) (consA (con (.str "to")) (consA (con (.str "seq")) (consA (con (.str "while")) (consA (con (.str "until")) (consA (con (.str "each")) (consA (con (.str "as")) (consA (con (.str "place")) (consA (con (.str "way")) (consA (con (.str "walkers")) (consA (con (.str "walker")) (consA (con (.str "b0")) (consA (con (.str "b1")) (consA (con (.str "f0")) (consA (con (.str "s0")) (consA (con (.str "s1")) (consA (con (.str "none")) (consA (con (.str "a")) (consA (con (.str "a0")) (consA (con (.str "a00")) (consA (con (.str "aa")) (consA (con (.str "z")) (consA (con (.str "zz")) (consA (con (.str "zzzzzzzz")) (nilA))))))))))))))))))))))))))])) (skip))
  (seq (ifS (tru (bin eqT (var 3) (con (.int 5)))) (seq (asg 4 (callE m__law_range [] [.s 0, .v (con (.int 2)), .v (con (.int 8))]))
  (seq (asg 7 (callE m__law_take [] [.s 0, .v (var 4)]))
  (seq (asg 8 (settle (bin ixT (var 1) (callE m__law_take [] [.s 0, .v (con (.int 26))]))))
  (seq (ifS (tru (bin gtT (var 7) (con (.int 0)))) (asg 8 (settle (bin ixT (var 2) (callE m__law_take [] [.s 0, .v (con (.int 36))])))) (skip))
  (ret (bin addT (bin addT (slE (con (.str "aaaaaaaa")) (noI) (soI (var 7))) (var 8)) (slE (con (.str "aaaaaaaa")) (noI) (soI (bin subT (bin subT (var 4) (con (.int 1))) (var 7)))))))))) (skip))
  (seq (asg 4 (con (.int 8)))
  (seq (ifS (tru (bin eqT (var 3) (con (.int 3)))) (asg 4 (callE m__law_range [] [.s 0, .v (con (.int 1)), .v (con (.int 8))])) (skip))
  (seq (asg 5 (settle (bin ixT (var 1) (callE m__law_take [] [.s 0, .v (con (.int 26))]))))
  (seq (forS (rng (consA (bin subT (var 4) (con (.int 1))) nilA)) (gNm 6) (asg 5 (bin addT (var 5) (bin ixT (var 2) (callE m__law_take [] [.s 0, .v (con (.int 36))])))))
  (ret (var 5))))))))))))
noncomputable def m__law_name : F := fnM 9 [0] b__law_name
noncomputable def b__law_text : S :=
  seq (asg 2 (con (.str " !\"#$&'()*+,-./0123456789:;<=>?@ABCDEFGHIJKLMNOPQRSTUVWXYZ[\\]^_`")))
  (seq (asg 2 (bin addT (var 2) (con (.str "abcdefghijklmnopqrstuvwxyz{|}~"))))
  (seq (asg 3 (con (.str "")))
  (seq (forS (rng (consA (callE m__law_upto [] [.s 0, .v (con (.int 0)), .v (cal (f2 minT) (consA (var 1) (consA (con (.int 12)) (nilA))))]) nilA)) (gNm 4) (asg 3 (bin addT (var 3) (bin ixT (var 2) (callE m__law_take [] [.s 0, .v (cal (f1 lenT) (consA (var 2) (nilA)))])))))
  (seq (ifS (andC (tru (bin gtT (cal (f1 lenT) (consA (var 3) (nilA))) (con (.int 0)))) (andC (tru (bin gtT (var 1) (con (.int 12)))) (tru (callE m__law_seldom [] [.s 0, .v (con (.int 12))])))) (asg 3 (slE (bin mulT (var 3) (var 1)) (noI) (soI (var 1)))) (skip))
  (ret (var 3))))))
noncomputable def m__law_text : F := fnM 5 [0] b__law_text
noncomputable def b__law_new_name : S :=
  seq (asg 2 (con (.str "abcdefghijklmnopqrstuvwxyz0123456789")))
  (seq (asg 3 (callE m__law_name [] [.s 0]))
  (seq (asg 4 (slE (var 3) (noI) (soI (con (.int 6)))))
  (seq (forS (rng (consA (bin addT (cal (f1 lenT) (consA (var 1) (nilA))) (con (.int 1))) nilA)) (gNm 5) (seq (ifS (tru (bin ninT (var 3) (var 1))) (ret (var 3)) (skip))
  (asg 3 (bin addT (bin addT (var 4) (bin ixT (var 2) (bin modT (cal (f1 intT) (consA (bin divT (var 5) (con (.int 36))) (nilA))) (con (.int 36))))) (bin ixT (var 2) (bin modT (cal (f1 intT) (consA (var 5) (nilA))) (con (.int 36))))))))
  (ret (var 3)))))
noncomputable def m__law_new_name : F := fnM 6 [0] b__law_new_name
noncomputable def b__law_asked : S :=
  tryE 1 xtab "TurnError" (ret (tupOE (consA (con (.str "got")) (consA (callE m_ascending [] [.v (var 0)]) (nilA))))) (fun x => ret (callE (m__law_error x) [] []))
noncomputable def m__law_asked : F := fnM 2 [] b__law_asked
noncomputable def b__law_texts : S :=
  seq (asg 2 (lstE (nilA)))
  (seq (forS (rng (consA (callE m__law_upto [] [.s 0, .v (con (.int 0)), .v (var 1)]) nilA)) (gNm 3) (seq (asg 4 (callE m__law_take [] [.s 0, .v (con (.int 6))]))
  (ifS (andC (tru (bin eqT (var 4) (con (.int 1)))) (tru (bin gtT (cal (f1 lenT) (consA (var 2) (nilA))) (con (.int 0))))) (exp (appendE 2 (callE m__law_one [] [.s 0, .v (var 2)]))) (ifS (tru (bin eqT (var 4) (con (.int 2)))) (exp (appendE 2 (callE m__law_text [] [.s 0, .v (con (.int 12))]))) (exp (appendE 2 (callE m__law_new_name [] [.s 0, .v (var 2)])))))))
  (ret (var 2)))
noncomputable def m__law_texts : F := fnM 5 [0] b__law_texts
noncomputable def b__law_row_right : S :=
  seq (asg 1 (cal (f1 repT) (consA (var 0) (nilA))))
  (seq (asg 2 (callE m__law_twice [] [.v (var 0)]))
  (seq (ifS (notC (tru (callE m__law_same [] [.v (callE m_first_repeated [] [.v (var 0)]), .v (var 2)]))) (ret (con (.bl false))) (skip))
  (seq (forS (rng (consA (con (.int 2)) nilA)) (gNm 3) (seq (asg 4 (callE m__law_asked [] [.v (var 0)]))
  (seq (ifS (tru (bin neT (cal (f1 repT) (consA (var 0) (nilA))) (var 1))) (ret (con (.bl false))) (skip))
  (ifS (tru (bin isT (var 2) (con .non))) (seq (ifS (orC (tru (bin neT (bin ixT (var 4) (con (.int 0))) (con (.str "got")))) (notC (tru (callE m__law_in_order [] [.v (bin ixT (var 4) (con (.int 1))), .v (var 0)])))) (ret (con (.bl false))) (skip))
  (seq (spendS 4 5 1 (seq (exp (appendE 5 (con (.str "a"))))
  (setIx 5 (con (.int 0)) (con (.str "z9")))))
  (skip))) (ifS (notC (tru (callE m__law_same [] [.v (var 4), .v (tupE (consA (con (.str "Repeated")) (consA (settle (var 2)) (nilA))))]))) (ret (con (.bl false))) (skip))))))
  (ret (andE (callE m__law_same [] [.v (callK m_first_repeated [0] [.v (var 0)]), .v (var 2)]) (bin eqT (cal (f1 repT) (consA (var 0) (nilA))) (var 1)))))))
noncomputable def m__law_row_right : F := fnM 6 [] b__law_row_right
noncomputable def b_law : S :=
  seq (asg 1 (callE m__law_store [] [.v (var 0)]))
  (seq (asg 2 (con (.int 7)))
  (seq (ifS (tru (bin eqT (callE m__law_take [] [.s 1, .v (con (.int 6))]) (con (.int 1)))) (asg 2 (con (.int 37))) (skip))
  (seq (asg 3 (callE m__law_texts [] [.s 1, .v (var 2)]))
  (seq (ifS (tru (bin eqT (callE m__law_take [] [.s 1, .v (con (.int 2))]) (con (.int 0)))) (asg 3 (lcM (rng (consA (cal (f1 lenT) (consA (var 3) (nilA))) nilA)) (gNm 9) (tru (bin ninT (bin ixT (var 3) (var 9)) (slE (var 3) (noI) (soI (var 9))))) (settle (bin ixT (var 3) (var 9))) [9])) (skip))
  (seq (ifS (orC (notC (tru (callE m__law_row_right [] [.v (callE m__law_seq [] [.s 1, .v (var 3)])]))) (notC (tru (callE m__law_row_right [] [.v (var 3)])))) (ret (con (.bl false))) (skip))
  (seq (ifS (tru (bin gtT (cal (f1 lenT) (consA (var 3) (nilA))) (con (.int 0)))) (seq (asg 7 (callE m__law_one [] [.s 1, .v (var 3)]))
  (seq (exp (insertE 3 (callE m__law_take [] [.s 1, .v (bin addT (cal (f1 lenT) (consA (var 3) (nilA))) (con (.int 1)))]) (bin addT (var 7) (con (.str "0")))))
  (seq (ifS (notC (tru (callE m__law_row_right [] [.v (var 3)]))) (ret (con (.bl false))) (skip))
  (seq (exp (appendE 3 (slE (var 7) (noI) (soI (cal (f2 maxT) (consA (con (.int 0)) (consA (bin subT (cal (f1 lenT) (consA (var 7) (nilA))) (con (.int 1))) (nilA))))))))
  (seq (ifS (notC (tru (callE m__law_row_right [] [.v (var 3)]))) (ret (con (.bl false))) (skip))
  (seq (asg 8 (callE m__law_take [] [.s 1, .v (bin addT (cal (f1 lenT) (consA (var 3) (nilA))) (con (.int 1)))]))
  (seq (exp (insertE 3 (var 8) (callE m__law_one [] [.s 1, .v (var 3)])))
  (seq (ifS (orC (notC (tru (callE m__law_row_right [] [.v (var 3)]))) (notC (tru (callE m__law_row_right [] [.v (cal (f1 tupT) (consA (var 3) (nilA)))])))) (ret (con (.bl false))) (skip))
  (exp (popAtE 3 (var 8))))))))))) (skip))
  (seq (asg 4 (lcM (rng (consA (cal (f1 lenT) (consA (var 3) (nilA))) nilA)) (gNm 9) (yesC) (settle (bin ixT (var 3) (bin subT (bin subT (cal (f1 lenT) (consA (var 3) (nilA))) (con (.int 1))) (var 9)))) [9]))
  (seq (ifS (orC (notC (tru (callE m__law_row_right [] [.v (var 3)]))) (notC (tru (callE m__law_row_right [] [.v (var 4)])))) (ret (con (.bl false))) (skip))
  (seq (asg 5 (lstE (nilA)))
  (seq (tryE 6 xtab "Repeated" (asg 5 (callK m_ascending [0] [.v (var 3)])) (fun x => ret (callE m__law_same [] [.v (fldE xtab x "name"), .v (callE m__law_twice [] [.v (var 3)])])))
  (ret (andE (bin isT (callE m__law_twice [] [.v (var 3)]) (con .non)) (callE m__law_in_order [] [.v (var 5), .v (var 3)])))))))))))))
noncomputable def m_law : F := fnM 10 [] b_law
end Mir
namespace Mir
open PySem PySem.Spec L2
def StOk (s : T) : Prop := ∃ (cs : List Int) (p : Nat) (h b c : Int), s = .own [.own (cs.map .int), .int p, .int h, .int b, .int c]
theorem stOk_mk {cs : List Int} {p : Nat} {h b c : Int} : StOk (.own [.own (cs.map .int), .int p, .int h, .int b, .int c]) := ⟨_, _, _, _, _, rfl⟩
theorem take_ok (s : T) (n : Int) (h : StOk s) (hn : n < 1073741824) : SatF (m__law_take [s, .int n]) (fun t ts => ∃ k s', t = .int k ∧ ts = [s'] ∧ StOk s' ∧ 0 ≤ k ∧ (2 ≤ n → k < n) ∧ (n < 2 → k = 0)) X0 := by
  obtain ⟨cs, p, h, b, c, rfl⟩ := h
  unfold m__law_take b__law_take
  simp (maxSteps := 4000000) only [wAll, List.map_cons, List.map_nil, List.length_cons, List.length_nil, List.append_nil, List.nil_append, List.cons_append, List.replicate_zero, List.replicate_succ, Nat.reduceAdd, Nat.reduceSub, List.getElem?_cons_zero, List.getElem?_cons_succ, Option.join_some, Option.join_none, List.set_cons_zero, List.set_cons_succ, decide_eq_true_eq, Bool.not_eq_true, Bool.not_eq_false, if_true, if_false, Bool.false_eq_true, eq_self, true_and, and_true, reduceCtorEq, Bool.not_true, Bool.not_false]
  refine ite_in (fun hn2 => ⟨0, _, rfl, rfl, stOk_mk, by omega, by omega, by omega⟩) fun hn2 => ?_
  simp (maxSteps := 4000000) only [wAll, List.map_cons, List.map_nil, List.length_cons, List.length_nil, List.append_nil, List.nil_append, List.cons_append, List.replicate_zero, List.replicate_succ, Nat.reduceAdd, Nat.reduceSub, List.getElem?_cons_zero, List.getElem?_cons_succ, Option.join_some, Option.join_none, List.set_cons_zero, List.set_cons_succ, decide_eq_true_eq, Bool.not_eq_true, Bool.not_eq_false, if_true, if_false, Bool.false_eq_true, eq_self, true_and, and_true, reduceCtorEq, Bool.not_true, Bool.not_false, later]
  have fin : ∀ {x : Int} {cs : List Int} {p : Nat} {h b c : Int}, ∃ k s', T.int (x % n) = T.int k ∧ [T.own [T.own (List.map T.int cs), T.int ↑p, T.int h, T.int b, T.int c]] = [s'] ∧ StOk s' ∧ 0 ≤ k ∧ (2 ≤ n → k < n) ∧ (n < 2 → k = 0) := fun {x cs p h b c} =>
    ⟨_, _, rfl, rfl, stOk_mk, Int.emod_nonneg _ (by omega), fun _ => Int.emod_lt_of_pos _ (by omega), fun _ => by omega⟩
  have all : ∀ {c : Prop} [Decidable c] {A B : Prop}, (c → A) → (¬ c → B) → if c then A else B := ite_in
  refine ite_in (fun h0 => ?_) fun h0 => ?_
  · refine ite_in (fun h1 => ?_) fun h1 => ?_
    · have hp : p < cs.length := by simpa using h1
      refine OptP.of (a := .int cs[p]) (by rw [atI_nat]; simp [hp]) ?_
      have e1 : ((p : Int) + 1) = ((p + 1 : Nat) : Int) := by omega
      simp (maxSteps := 4000000) only [wAll, List.map_cons, List.map_nil, List.length_cons, List.length_nil, List.append_nil, List.nil_append, List.cons_append, List.replicate_zero, List.replicate_succ, Nat.reduceAdd, Nat.reduceSub, List.getElem?_cons_zero, List.getElem?_cons_succ, Option.join_some, Option.join_none, List.set_cons_zero, List.set_cons_succ, decide_eq_true_eq, Bool.not_eq_true, Bool.not_eq_false, if_true, if_false, Bool.false_eq_true, eq_self, true_and, and_true, reduceCtorEq, Bool.not_true, Bool.not_false, later, e1]
      repeat' first | (refine ite_in (fun _ => ?_) fun _ => ?_) | (refine And.intro (by (first | omega | (unfold RngOk; omega) | (unfold MulOk; omega) | (simp; omega) | (simp <;> omega))) ?_)
      all_goals first | exact fin | omega
    · repeat' first | (refine ite_in (fun _ => ?_) fun _ => ?_) | (refine And.intro (by (first | omega | (unfold RngOk; omega) | (unfold MulOk; omega) | (simp; omega) | (simp <;> omega))) ?_)
      all_goals first | exact fin | omega
  · repeat' first | (refine ite_in (fun _ => ?_) fun _ => ?_) | (refine And.intro (by (first | omega | (unfold RngOk; omega) | (unfold MulOk; omega) | (simp; omega) | (simp <;> omega))) ?_)
    all_goals first | exact fin | omega
theorem okR_one {xs : List (Option T)} {t s : T} : okR 1 xs t [s] = ((noLst t && noLst s) || noOwnX xs) := by
  unfold okR; simp [noLsts]
theorem noLsts_ints : ∀ cs : List Int, noLsts (cs.map .int) = true
  | [] => rfl
  | c :: cs => by
    show (noLst (.int c) && noLsts (cs.map .int)) = true
    rw [noLsts_ints cs]; rfl
theorem StOk.noLst {s : T} (h : StOk s) : noLst s = true := by
  obtain ⟨cs, p, h, b, c, rfl⟩ := h
  show (Mir.noLst (.own (cs.map .int)) && true) = true
  rw [Bool.and_true]
  exact noLsts_ints cs
def Gen (R : T → Prop) : T → List T → Prop := fun t outs => ∃ s', outs = [s'] ∧ StOk s' ∧ R t
theorem gen_call {r : FR} {R : T → Prop} {xs : List (Option T)} {j : Nat} {Q : T → Env → Prop} {X : Exc → List T → Prop} {e : Env} (h : SatF r (Gen R) X0) (hl : ∀ t, R t → noLst t = true ∨ noOwnX xs = true) (k : ∀ t s', StOk s' → R t → Q t ((putO e [] []).set j (some s'))) : SatF r (kRet 1 xs [j] Q e) X := by
  refine h.use fun t ts => ?_
  rintro ⟨s', rfl, hs, hr⟩
  refine ⟨?_, k t s' hs hr⟩
  rw [okR_one, hs.noLst]
  rcases hl t hr with q | q <;> rw [q] <;> simp
def RInt (lo hi : Int) : T → Prop := fun t => ∃ k, t = .int k ∧ lo ≤ k ∧ k ≤ hi
theorem RInt.nl {lo hi : Int} {t : T} {p : Prop} (h : RInt lo hi t) : noLst t = true ∨ p := by
  obtain ⟨k, rfl, _⟩ := h; exact .inl rfl
theorem take_gen {s : T} {n : Int} (h : StOk s) (h1 : 1 ≤ n) (hn : n < 1073741824) : SatF (m__law_take [s, .int n]) (Gen (RInt 0 (n - 1))) X0 :=
  (take_ok s n h hn).use fun t ts => by
    rintro ⟨k, s', rfl, rfl, hs, h1, h2, h3⟩
    exact ⟨s', rfl, hs, k, rfl, h1, by by_cases q : 2 ≤ n <;> omega⟩
theorem range_gen {s : T} {lo hi : Int} (h : StOk s) (h1 : lo ≤ hi) (hn : hi - lo < 1073741823) : SatF (m__law_range [s, .int lo, .int hi]) (Gen (RInt lo hi)) X0 := by
  unfold m__law_range b__law_range
  simp (maxSteps := 4000000) only [wAll, List.map_cons, List.map_nil, List.length_cons, List.length_nil, List.append_nil, List.nil_append, List.cons_append, List.replicate_zero, List.replicate_succ, Nat.reduceAdd, Nat.reduceSub, List.getElem?_cons_zero, List.getElem?_cons_succ, Option.join_some, Option.join_none, List.set_cons_zero, List.set_cons_succ, decide_eq_true_eq, Bool.not_eq_true, Bool.not_eq_false, if_true, if_false, Bool.false_eq_true, eq_self, true_and, and_true, reduceCtorEq, Bool.not_true, Bool.not_false, later]
  refine gen_call (take_gen h (by omega) (by omega)) (fun _ q => q.nl) fun t s' hs => ?_
  rintro ⟨k, rfl, q1, q2⟩
  simp (maxSteps := 4000000) only [wAll, List.map_cons, List.map_nil, List.length_cons, List.length_nil, List.append_nil, List.nil_append, List.cons_append, List.replicate_zero, List.replicate_succ, Nat.reduceAdd, Nat.reduceSub, List.getElem?_cons_zero, List.getElem?_cons_succ, Option.join_some, Option.join_none, List.set_cons_zero, List.set_cons_succ, decide_eq_true_eq, Bool.not_eq_true, Bool.not_eq_false, if_true, if_false, Bool.false_eq_true, eq_self, true_and, and_true, reduceCtorEq, Bool.not_true, Bool.not_false, later]
  exact ⟨s', rfl, hs, _, rfl, by omega, by omega⟩
theorem seldom_gen {s : T} {n : Int} (h : StOk s) (h1 : 1 ≤ n) (hn : n < 1073741824) : SatF (m__law_seldom [s, .int n]) (Gen fun t => ∃ b, t = .bl b) X0 := by
  unfold m__law_seldom b__law_seldom
  simp (maxSteps := 4000000) only [wAll, List.map_cons, List.map_nil, List.length_cons, List.length_nil, List.append_nil, List.nil_append, List.cons_append, List.replicate_zero, List.replicate_succ, Nat.reduceAdd, Nat.reduceSub, List.getElem?_cons_zero, List.getElem?_cons_succ, Option.join_some, Option.join_none, List.set_cons_zero, List.set_cons_succ, decide_eq_true_eq, Bool.not_eq_true, Bool.not_eq_false, if_true, if_false, Bool.false_eq_true, eq_self, true_and, and_true, reduceCtorEq, Bool.not_true, Bool.not_false, later]
  refine gen_call (take_gen h (by omega) (by omega)) (fun _ q => q.nl) fun t s' hs => ?_
  rintro ⟨k, rfl, q1, q2⟩
  simp (maxSteps := 4000000) only [wAll, List.map_cons, List.map_nil, List.length_cons, List.length_nil, List.append_nil, List.nil_append, List.cons_append, List.replicate_zero, List.replicate_succ, Nat.reduceAdd, Nat.reduceSub, List.getElem?_cons_zero, List.getElem?_cons_succ, Option.join_some, Option.join_none, List.set_cons_zero, List.set_cons_succ, decide_eq_true_eq, Bool.not_eq_true, Bool.not_eq_false, if_true, if_false, Bool.false_eq_true, eq_self, true_and, and_true, reduceCtorEq, Bool.not_true, Bool.not_false, later]
  exact ⟨s', rfl, hs, _, rfl⟩
theorem upto_gen {s : T} {lo hi : Int} (h : StOk s) (h1 : lo ≤ hi) (hn : hi - lo < 1073741823) : SatF (m__law_upto [s, .int lo, .int hi]) (Gen (RInt lo hi)) X0 := by
  unfold m__law_upto b__law_upto
  simp (maxSteps := 4000000) only [wAll, List.map_cons, List.map_nil, List.length_cons, List.length_nil, List.append_nil, List.nil_append, List.cons_append, List.replicate_zero, List.replicate_succ, Nat.reduceAdd, Nat.reduceSub, List.getElem?_cons_zero, List.getElem?_cons_succ, Option.join_some, Option.join_none, List.set_cons_zero, List.set_cons_succ, decide_eq_true_eq, Bool.not_eq_true, Bool.not_eq_false, if_true, if_false, Bool.false_eq_true, eq_self, true_and, and_true, reduceCtorEq, Bool.not_true, Bool.not_false, later]
  refine gen_call (take_gen h (by omega) (by omega)) (fun _ q => q.nl) fun t s' hs => ?_
  rintro ⟨k, rfl, q1, q2⟩
  simp (maxSteps := 4000000) only [wAll, List.map_cons, List.map_nil, List.length_cons, List.length_nil, List.append_nil, List.nil_append, List.cons_append, List.replicate_zero, List.replicate_succ, Nat.reduceAdd, Nat.reduceSub, List.getElem?_cons_zero, List.getElem?_cons_succ, Option.join_some, Option.join_none, List.set_cons_zero, List.set_cons_succ, decide_eq_true_eq, Bool.not_eq_true, Bool.not_eq_false, if_true, if_false, Bool.false_eq_true, eq_self, true_and, and_true, reduceCtorEq, Bool.not_true, Bool.not_false, later]
  refine ite_in (fun _ => ⟨s', rfl, hs, lo, rfl, by omega, by omega⟩) fun _ => ?_
  refine ite_in (fun _ => ⟨s', rfl, hs, _, rfl, by split <;> omega, by split <;> omega⟩) fun _ => ?_
  refine gen_call (range_gen hs h1 hn) (fun _ q => q.nl) fun t s' hs => ?_
  intro q
  simp (maxSteps := 4000000) only [wAll, List.map_cons, List.map_nil, List.length_cons, List.length_nil, List.append_nil, List.nil_append, List.cons_append, List.replicate_zero, List.replicate_succ, Nat.reduceAdd, Nat.reduceSub, List.getElem?_cons_zero, List.getElem?_cons_succ, Option.join_some, Option.join_none, List.set_cons_zero, List.set_cons_succ, decide_eq_true_eq, Bool.not_eq_true, Bool.not_eq_false, if_true, if_false, Bool.false_eq_true, eq_self, true_and, and_true, reduceCtorEq, Bool.not_true, Bool.not_false, later]
  exact ⟨s', rfl, hs, q⟩
def ROf (ts : List T) : T → Prop := fun t => t ∈ ts
theorem one_gen {s : T} {ts : List T} (h : StOk s) (h1 : 1 ≤ ts.length) (hn : ts.length < 1073741824) : SatF (m__law_one [s, .lst ts]) (Gen (ROf ts)) X0 := by
  unfold m__law_one b__law_one
  simp (maxSteps := 4000000) only [wAll, List.map_cons, List.map_nil, List.length_cons, List.length_nil, List.append_nil, List.nil_append, List.cons_append, List.replicate_zero, List.replicate_succ, Nat.reduceAdd, Nat.reduceSub, List.getElem?_cons_zero, List.getElem?_cons_succ, Option.join_some, Option.join_none, List.set_cons_zero, List.set_cons_succ, decide_eq_true_eq, Bool.not_eq_true, Bool.not_eq_false, if_true, if_false, Bool.false_eq_true, eq_self, true_and, and_true, reduceCtorEq, Bool.not_true, Bool.not_false, later]
  refine gen_call (take_gen h (by omega) (by omega)) (fun _ q => q.nl) fun t s' hs => ?_
  rintro ⟨k, rfl, q1, q2⟩
  have hk : k.toNat < ts.length := by omega
  simp (maxSteps := 4000000) only [wAll, List.map_cons, List.map_nil, List.length_cons, List.length_nil, List.append_nil, List.nil_append, List.cons_append, List.replicate_zero, List.replicate_succ, Nat.reduceAdd, Nat.reduceSub, List.getElem?_cons_zero, List.getElem?_cons_succ, Option.join_some, Option.join_none, List.set_cons_zero, List.set_cons_succ, decide_eq_true_eq, Bool.not_eq_true, Bool.not_eq_false, if_true, if_false, Bool.false_eq_true, eq_self, true_and, and_true, reduceCtorEq, Bool.not_true, Bool.not_false, later]
  refine OptP.of (a := ts[k.toNat]) (atI_int q1 hk) ?_
  simp (maxSteps := 4000000) only [wAll, List.map_cons, List.map_nil, List.length_cons, List.length_nil, List.append_nil, List.nil_append, List.cons_append, List.replicate_zero, List.replicate_succ, Nat.reduceAdd, Nat.reduceSub, List.getElem?_cons_zero, List.getElem?_cons_succ, Option.join_some, Option.join_none, List.set_cons_zero, List.set_cons_succ, decide_eq_true_eq, Bool.not_eq_true, Bool.not_eq_false, if_true, if_false, Bool.false_eq_true, eq_self, true_and, and_true, reduceCtorEq, Bool.not_true, Bool.not_false, later]
  exact ⟨s', rfl, hs, List.getElem_mem hk⟩
def RS (P : Nat → Prop) (n : Nat) : T → Prop := fun t => ∃ s, t = .str s ∧ (ls s).length ≤ n ∧ ∀ c ∈ ls s, P c
theorem RS.nl {P : Nat → Prop} {n : Nat} {t : T} {p : Prop} (h : RS P n t) : noLst t = true ∨ p := by
  obtain ⟨k, rfl, _⟩ := h; exact .inl rfl
abbrev Pr (c : Nat) : Prop := 32 ≤ c ∧ c < 127
theorem cut_mem {z : Str} {lo hi : Option Int} {c : Nat} (h : c ∈ ls (cutS z lo hi)) : c ∈ ls z := by
  rw [ls_cut] at h
  exact List.mem_of_mem_drop (List.mem_of_mem_take h)
theorem cut_le {z : Str} {lo hi : Option Int} : (ls (cutS z lo hi)).length ≤ (ls z).length := by
  rw [ls_cut, List.length_take, List.length_drop]; omega
theorem cut_hi {z : Str} {k : Int} (h : 0 ≤ k) : (ls (cutS z none (some k))).length ≤ k.toNat := by
  rw [ls_cut, List.length_take]
  have e : HT.sIx (ls z).length (ls z).length (some k) = min k.toNat (ls z).length := by
    show (if k < 0 then (k + ((ls z).length : Int)).toNat else min k.toNat (ls z).length) = _
    rw [if_neg (by omega)]
  rw [e]; omega
theorem mem_reps {c n : Nat} {l : List Nat} (h : c ∈ (List.replicate n l).flatten) : c ∈ l := by
  obtain ⟨m, h1, h2⟩ := List.mem_flatten.mp h
  rw [(List.mem_replicate.mp h1).2] at h2
  exact h2
theorem ls_nil : ls (Str.ofString "") = [] := rfl
theorem text_gen {s : T} {n : Int} (h : StOk s) (h1 : 1 ≤ n) (hn : n ≤ 3000) : SatF (m__law_text [s, .int n]) (Gen (RS Pr (if n ≤ 12 then 12 else n.toNat))) X0 := by
  unfold m__law_text b__law_text
  simp (maxSteps := 4000000) only [wAll, List.map_cons, List.map_nil, List.length_cons, List.length_nil, List.append_nil, List.nil_append, List.cons_append, List.replicate_zero, List.replicate_succ, Nat.reduceAdd, Nat.reduceSub, List.getElem?_cons_zero, List.getElem?_cons_succ, Option.join_some, Option.join_none, List.set_cons_zero, List.set_cons_succ, decide_eq_true_eq, Bool.not_eq_true, Bool.not_eq_false, if_true, if_false, Bool.false_eq_true, eq_self, true_and, and_true, reduceCtorEq, Bool.not_true, Bool.not_false]
  rw [later]
  simp (maxSteps := 4000000) only [wAll, List.map_cons, List.map_nil, List.length_cons, List.length_nil, List.append_nil, List.nil_append, List.cons_append, List.replicate_zero, List.replicate_succ, Nat.reduceAdd, Nat.reduceSub, List.getElem?_cons_zero, List.getElem?_cons_succ, Option.join_some, Option.join_none, List.set_cons_zero, List.set_cons_succ, decide_eq_true_eq, Bool.not_eq_true, Bool.not_eq_false, if_true, if_false, Bool.false_eq_true, eq_self, true_and, and_true, reduceCtorEq, Bool.not_true, Bool.not_false]
  refine add_str (by decide) ?_
  generalize ez : (Str.ofString " !\"#$&'()*+,-./0123456789:;<=>?@ABCDEFGHIJKLMNOPQRSTUVWXYZ[\\]^_`" ++ Str.ofString "abcdefghijklmnopqrstuvwxyz{|}~" : Str) = z
  have hz1 : (ls z).length = 94 := by subst ez; decide +kernel
  have hz2 : ∀ c ∈ ls z, Pr c := by subst ez; decide +kernel
  clear ez
  simp (maxSteps := 4000000) only [wAll, List.map_cons, List.map_nil, List.length_cons, List.length_nil, List.append_nil, List.nil_append, List.cons_append, List.replicate_zero, List.replicate_succ, Nat.reduceAdd, Nat.reduceSub, List.getElem?_cons_zero, List.getElem?_cons_succ, Option.join_some, Option.join_none, List.set_cons_zero, List.set_cons_succ, decide_eq_true_eq, Bool.not_eq_true, Bool.not_eq_false, if_true, if_false, Bool.false_eq_true, eq_self, true_and, and_true, reduceCtorEq, Bool.not_true, Bool.not_false, later]
  refine gen_call (upto_gen h (by split <;> omega) (by split <;> omega)) (fun _ q => q.nl) fun t s' hs => ?_
  rintro ⟨m, rfl, m1, m2⟩
  have m3 : m ≤ 12 := by revert m2; split <;> intro m2 <;> omega
  simp (maxSteps := 4000000) only [wAll, List.map_cons, List.map_nil, List.length_cons, List.length_nil, List.append_nil, List.nil_append, List.cons_append, List.replicate_zero, List.replicate_succ, Nat.reduceAdd, Nat.reduceSub, List.getElem?_cons_zero, List.getElem?_cons_succ, Option.join_some, Option.join_none, List.set_cons_zero, List.set_cons_succ, decide_eq_true_eq, Bool.not_eq_true, Bool.not_eq_false, if_true, if_false, Bool.false_eq_true, eq_self, true_and, and_true, reduceCtorEq, Bool.not_true, Bool.not_false, later]
  refine ⟨by (first | omega | (unfold RngOk; omega) | (unfold MulOk; omega) | (simp; omega) | (simp <;> omega)), ?_⟩
  refine forL_inv (fun its e => ∃ s' f o, e = [some s', some (.int n), some (.str z), some (.str f), o] ∧ StOk s' ∧ its.length + (ls f).length ≤ 12 ∧ ∀ c ∈ ls f, Pr c) ?_ ?_ _ _ ⟨s', _, none, rfl, hs, by rw [ls_nil]; simp; omega, fun c hc => by rw [ls_nil] at hc; cases hc⟩
  · rintro t ts e ⟨s', f, o, rfl, hs, hl, hf⟩
    replace hl : ts.length + 1 + (ls f).length ≤ 12 := hl
    simp (maxSteps := 4000000) only [wAll, List.map_cons, List.map_nil, List.length_cons, List.length_nil, List.append_nil, List.nil_append, List.cons_append, List.replicate_zero, List.replicate_succ, Nat.reduceAdd, Nat.reduceSub, List.getElem?_cons_zero, List.getElem?_cons_succ, Option.join_some, Option.join_none, List.set_cons_zero, List.set_cons_succ, decide_eq_true_eq, Bool.not_eq_true, Bool.not_eq_false, if_true, if_false, Bool.false_eq_true, eq_self, true_and, and_true, reduceCtorEq, Bool.not_true, Bool.not_false]
    refine len_str (by rw [hz1]; decide) ?_
    rw [hz1]
    simp (maxSteps := 4000000) only [wAll, List.map_cons, List.map_nil, List.length_cons, List.length_nil, List.append_nil, List.nil_append, List.cons_append, List.replicate_zero, List.replicate_succ, Nat.reduceAdd, Nat.reduceSub, List.getElem?_cons_zero, List.getElem?_cons_succ, Option.join_some, Option.join_none, List.set_cons_zero, List.set_cons_succ, decide_eq_true_eq, Bool.not_eq_true, Bool.not_eq_false, if_true, if_false, Bool.false_eq_true, eq_self, true_and, and_true, reduceCtorEq, Bool.not_true, Bool.not_false]
    refine gen_call (take_gen hs (by omega) (by omega)) (fun _ q => q.nl) fun t s' hs => ?_
    rintro ⟨k, rfl, q1, q2⟩
    simp (maxSteps := 4000000) only [wAll, List.map_cons, List.map_nil, List.length_cons, List.length_nil, List.append_nil, List.nil_append, List.cons_append, List.replicate_zero, List.replicate_succ, Nat.reduceAdd, Nat.reduceSub, List.getElem?_cons_zero, List.getElem?_cons_succ, Option.join_some, Option.join_none, List.set_cons_zero, List.set_cons_succ, decide_eq_true_eq, Bool.not_eq_true, Bool.not_eq_false, if_true, if_false, Bool.false_eq_true, eq_self, true_and, and_true, reduceCtorEq, Bool.not_true, Bool.not_false]
    refine ix_str q1 (by omega) (by rw [hz1]; decide) fun c hc => ?_
    simp (maxSteps := 4000000) only [wAll, List.map_cons, List.map_nil, List.length_cons, List.length_nil, List.append_nil, List.nil_append, List.cons_append, List.replicate_zero, List.replicate_succ, Nat.reduceAdd, Nat.reduceSub, List.getElem?_cons_zero, List.getElem?_cons_succ, Option.join_some, Option.join_none, List.set_cons_zero, List.set_cons_succ, decide_eq_true_eq, Bool.not_eq_true, Bool.not_eq_false, if_true, if_false, Bool.false_eq_true, eq_self, true_and, and_true, reduceCtorEq, Bool.not_true, Bool.not_false]
    refine add_str (by rw [ls_one]; show (ls f).length + 1 ≤ sizeLine; have : (12 : Nat) ≤ sizeLine := by decide
                       omega) ?_
    simp (maxSteps := 4000000) only [wAll, List.map_cons, List.map_nil, List.length_cons, List.length_nil, List.append_nil, List.nil_append, List.cons_append, List.replicate_zero, List.replicate_succ, Nat.reduceAdd, Nat.reduceSub, List.getElem?_cons_zero, List.getElem?_cons_succ, Option.join_some, Option.join_none, List.set_cons_zero, List.set_cons_succ, decide_eq_true_eq, Bool.not_eq_true, Bool.not_eq_false, if_true, if_false, Bool.false_eq_true, eq_self, true_and, and_true, reduceCtorEq, Bool.not_true, Bool.not_false]
    refine ⟨s', _, _, rfl, hs, by rw [ls_append, ls_one, List.length_append]; simp; omega, fun d hd => ?_⟩
    rw [ls_append, ls_one] at hd
    rcases List.mem_append.mp hd with q | q
    · exact hf d q
    · rw [List.mem_singleton.mp q]; exact hz2 c hc
  · rintro e ⟨s', f, o, rfl, hs, hl, hf⟩
    replace hl : 0 + (ls f).length ≤ 12 := hl
    have h12 : (12 : Nat) ≤ sizeLine := by decide
    have fin : ∀ s', StOk s' → Gen (RS Pr (if n ≤ 12 then 12 else n.toNat)) (.str f) [s'] := fun s' hs => ⟨s', rfl, hs, f, rfl, by split <;> omega, hf⟩
    simp (maxSteps := 4000000) only [wAll, List.map_cons, List.map_nil, List.length_cons, List.length_nil, List.append_nil, List.nil_append, List.cons_append, List.replicate_zero, List.replicate_succ, Nat.reduceAdd, Nat.reduceSub, List.getElem?_cons_zero, List.getElem?_cons_succ, Option.join_some, Option.join_none, List.set_cons_zero, List.set_cons_succ, decide_eq_true_eq, Bool.not_eq_true, Bool.not_eq_false, if_true, if_false, Bool.false_eq_true, eq_self, true_and, and_true, reduceCtorEq, Bool.not_true, Bool.not_false, later]
    refine len_str (by omega) ?_
    simp (maxSteps := 4000000) only [wAll, List.map_cons, List.map_nil, List.length_cons, List.length_nil, List.append_nil, List.nil_append, List.cons_append, List.replicate_zero, List.replicate_succ, Nat.reduceAdd, Nat.reduceSub, List.getElem?_cons_zero, List.getElem?_cons_succ, Option.join_some, Option.join_none, List.set_cons_zero, List.set_cons_succ, decide_eq_true_eq, Bool.not_eq_true, Bool.not_eq_false, if_true, if_false, Bool.false_eq_true, eq_self, true_and, and_true, reduceCtorEq, Bool.not_true, Bool.not_false]
    refine ite_in (fun g0 => ?_) fun _ => by simp (maxSteps := 4000000) only [wAll, List.map_cons, List.map_nil, List.length_cons, List.length_nil, List.append_nil, List.nil_append, List.cons_append, List.replicate_zero, List.replicate_succ, Nat.reduceAdd, Nat.reduceSub, List.getElem?_cons_zero, List.getElem?_cons_succ, Option.join_some, Option.join_none, List.set_cons_zero, List.set_cons_succ, decide_eq_true_eq, Bool.not_eq_true, Bool.not_eq_false, if_true, if_false, Bool.false_eq_true, eq_self, true_and, and_true, reduceCtorEq, Bool.not_true, Bool.not_false, later]; exact fin s' hs
    refine ite_in (fun g1 => ?_) fun _ => by simp (maxSteps := 4000000) only [wAll, List.map_cons, List.map_nil, List.length_cons, List.length_nil, List.append_nil, List.nil_append, List.cons_append, List.replicate_zero, List.replicate_succ, Nat.reduceAdd, Nat.reduceSub, List.getElem?_cons_zero, List.getElem?_cons_succ, Option.join_some, Option.join_none, List.set_cons_zero, List.set_cons_succ, decide_eq_true_eq, Bool.not_eq_true, Bool.not_eq_false, if_true, if_false, Bool.false_eq_true, eq_self, true_and, and_true, reduceCtorEq, Bool.not_true, Bool.not_false, later]; exact fin s' hs
    refine gen_call (seldom_gen hs (by omega) (by omega)) (fun t q => by obtain ⟨b, rfl⟩ := q; exact .inl rfl) fun t s' hs => ?_
    rintro ⟨b, rfl⟩
    simp (maxSteps := 4000000) only [wAll, List.map_cons, List.map_nil, List.length_cons, List.length_nil, List.append_nil, List.nil_append, List.cons_append, List.replicate_zero, List.replicate_succ, Nat.reduceAdd, Nat.reduceSub, List.getElem?_cons_zero, List.getElem?_cons_succ, Option.join_some, Option.join_none, List.set_cons_zero, List.set_cons_succ, decide_eq_true_eq, Bool.not_eq_true, Bool.not_eq_false, if_true, if_false, Bool.false_eq_true, eq_self, true_and, and_true, reduceCtorEq, Bool.not_true, Bool.not_false]
    refine ite_in (fun g0 => ?_) fun _ => by simp (maxSteps := 4000000) only [wAll, List.map_cons, List.map_nil, List.length_cons, List.length_nil, List.append_nil, List.nil_append, List.cons_append, List.replicate_zero, List.replicate_succ, Nat.reduceAdd, Nat.reduceSub, List.getElem?_cons_zero, List.getElem?_cons_succ, Option.join_some, Option.join_none, List.set_cons_zero, List.set_cons_succ, decide_eq_true_eq, Bool.not_eq_true, Bool.not_eq_false, if_true, if_false, Bool.false_eq_true, eq_self, true_and, and_true, reduceCtorEq, Bool.not_true, Bool.not_false, later]; exact fin s' hs
    have hb : (36000 : Nat) ≤ sizeLine := by decide
    have hlen : (ls f).length * n.toNat ≤ 36000 := by
      have : (ls f).length * n.toNat ≤ 12 * 3000 := Nat.mul_le_mul (by omega) (by omega)
      omega
    refine mul_str h1 (by omega) (by omega) fun w hw => ?_
    simp (maxSteps := 4000000) only [wAll, List.map_cons, List.map_nil, List.length_cons, List.length_nil, List.append_nil, List.nil_append, List.cons_append, List.replicate_zero, List.replicate_succ, Nat.reduceAdd, Nat.reduceSub, List.getElem?_cons_zero, List.getElem?_cons_succ, Option.join_some, Option.join_none, List.set_cons_zero, List.set_cons_succ, decide_eq_true_eq, Bool.not_eq_true, Bool.not_eq_false, if_true, if_false, Bool.false_eq_true, eq_self, true_and, and_true, reduceCtorEq, Bool.not_true, Bool.not_false]
    refine sl_str_in (by rw [hw]; simp; rw [Nat.mul_comm]; omega) ?_
    simp (maxSteps := 4000000) only [wAll, List.map_cons, List.map_nil, List.length_cons, List.length_nil, List.append_nil, List.nil_append, List.cons_append, List.replicate_zero, List.replicate_succ, Nat.reduceAdd, Nat.reduceSub, List.getElem?_cons_zero, List.getElem?_cons_succ, Option.join_some, Option.join_none, List.set_cons_zero, List.set_cons_succ, decide_eq_true_eq, Bool.not_eq_true, Bool.not_eq_false, if_true, if_false, Bool.false_eq_true, eq_self, true_and, and_true, reduceCtorEq, Bool.not_true, Bool.not_false, later]
    refine ⟨s', rfl, hs, _, rfl, ?_, fun c hc => hf c ?_⟩
    · rw [if_neg (by omega)]; exact cut_hi (by omega)
    · have := cut_mem hc
      rw [hw] at this
      exact mem_reps this
end Mir
namespace Mir
open PySem PySem.Spec L2
def Lo (c : Nat) : Prop := 97 ≤ c ∧ c ≤ 122
def Sg (c : Nat) : Prop := (97 ≤ c ∧ c ≤ 122) ∨ (48 ≤ c ∧ c ≤ 57)
instance (c : Nat) : Decidable (Lo c) := by unfold Lo; infer_instance
instance (c : Nat) : Decidable (Sg c) := by unfold Sg; infer_instance
def NameL (n : Nat) (l : List Nat) : Prop := ∃ a r, l = a :: r ∧ r.length + 1 ≤ n ∧ Lo a ∧ ∀ c ∈ r, Sg c
def RName : T → Prop := fun t => ∃ s, t = .str s ∧ NameL 8 (ls s)
theorem RName.nl {t : T} {p : Prop} (h : RName t) : noLst t = true ∨ p := by
  obtain ⟨k, rfl, _⟩ := h; exact .inl rfl
theorem NameL.add {n m : Nat} {l r : List Nat} (h : NameL n l) (hr : ∀ c ∈ r, Sg c) (hm : r.length ≤ m) : NameL (n + m) (l ++ r) := by
  obtain ⟨a, q, rfl, h1, h2, h3⟩ := h
  refine ⟨a, q ++ r, rfl, by rw [List.length_append]; omega, h2, fun c hc => ?_⟩
  rcases List.mem_append.mp hc with z | z
  · exact h3 c z
  · exact hr c z
theorem NameL.weak {n m : Nat} {l : List Nat} (h : NameL n l) (hm : n ≤ m) : NameL m l := by
  obtain ⟨a, q, rfl, h1, h2, h3⟩ := h
  exact ⟨a, q, rfl, by omega, h2, h3⟩
theorem NameL.len {n : Nat} {l : List Nat} (h : NameL n l) : 1 ≤ l.length ∧ l.length ≤ n := by
  obtain ⟨a, q, rfl, h1, h2, h3⟩ := h
  exact ⟨by simp, by simpa using h1⟩
theorem NameL.all {n : Nat} {l : List Nat} (h : NameL n l) : ∀ c ∈ l, Sg c := by
  obtain ⟨a, q, rfl, h1, h2, h3⟩ := h
  intro c hc
  rcases List.mem_cons.mp hc with rfl | z
  · exact .inl h2
  · exact h3 c z
def nameB : T → Bool
  | .str s => match ls s with
    | a :: r => decide (Lo a) && (r.all fun c => decide (Sg c)) && decide (r.length + 1 ≤ 8)
    | [] => false
  | _ => false
theorem nameB_ok {t : T} (h : nameB t = true) : RName t := by
  cases t with
  | str s =>
    replace h : (match ls s with
      | a :: r => decide (Lo a) && (r.all fun c => decide (Sg c)) && decide (r.length + 1 ≤ 8)
      | [] => false) = true := h
    refine ⟨s, rfl, ?_⟩
    cases e : ls s with
    | nil => rw [e] at h; cases h
    | cons a r =>
      rw [e] at h
      have h1 := Bool.and_eq_true_iff.mp h
      have h2 := Bool.and_eq_true_iff.mp h1.1
      exact ⟨a, r, rfl, of_decide_eq_true h1.2, of_decide_eq_true h2.1, fun c hc => of_decide_eq_true (List.all_eq_true.mp h2.2 c hc)⟩
  | _ => cases h
theorem rname_of {ts : List T} {t : T} (h : ts.all nameB = true) (q : ROf ts t) : RName t := nameB_ok (List.all_eq_true.mp h t q)
theorem lit_a : ls (Str.ofString "aaaaaaaa") = List.replicate 8 97 := by rfl
theorem Lo.sg {c : Nat} (h : Lo c) : Sg c := .inl h
theorem cut_a {k : Int} (h0 : 0 ≤ k) (h8 : k ≤ 8) : ls (cutS (Str.ofString "aaaaaaaa") none (some k)) = List.replicate k.toNat 97 := by
  rw [ls_cut, lit_a]
  have e : HT.sIx (List.replicate 8 97).length (List.replicate 8 97).length (some k) = k.toNat := by
    show (if k < 0 then (k + ((List.replicate 8 97).length : Int)).toNat else min k.toNat (List.replicate 8 97).length) = _
    rw [if_neg (by omega), List.length_replicate]; omega
  rw [e]
  show List.take (k.toNat - 0) (List.drop 0 _) = _
  rw [List.drop_zero, List.take_replicate]
  congr 1; omega
theorem low26 : ∀ c ∈ ls (Str.ofString "abcdefghijklmnopqrstuvwxyz"), Lo c := by decide +kernel
theorem name_gen {s : T} (h : StOk s) : SatF (m__law_name [s]) (Gen RName) X0 := by
  unfold m__law_name b__law_name
  simp (maxSteps := 4000000) only [wAll, List.map_cons, List.map_nil, List.length_cons, List.length_nil, List.append_nil, List.nil_append, List.cons_append, List.replicate_zero, List.replicate_succ, Nat.reduceAdd, Nat.reduceSub, List.getElem?_cons_zero, List.getElem?_cons_succ, Option.join_some, Option.join_none, List.set_cons_zero, List.set_cons_succ, decide_eq_true_eq, Bool.not_eq_true, Bool.not_eq_false, if_true, if_false, Bool.false_eq_true, eq_self, true_and, and_true, reduceCtorEq, Bool.not_true, Bool.not_false]
  rw [later]
  simp (maxSteps := 4000000) only [wAll, List.map_cons, List.map_nil, List.length_cons, List.length_nil, List.append_nil, List.nil_append, List.cons_append, List.replicate_zero, List.replicate_succ, Nat.reduceAdd, Nat.reduceSub, List.getElem?_cons_zero, List.getElem?_cons_succ, Option.join_some, Option.join_none, List.set_cons_zero, List.set_cons_succ, decide_eq_true_eq, Bool.not_eq_true, Bool.not_eq_false, if_true, if_false, Bool.false_eq_true, eq_self, true_and, and_true, reduceCtorEq, Bool.not_true, Bool.not_false]
  refine add_str (by decide) ?_
  generalize ez : (Str.ofString "abcdefghijklmnopqrstuvwxyz" ++ Str.ofString "0123456789" : Str) = z
  have hz1 : (ls z).length = 36 := by subst ez; decide +kernel
  have hz2 : ∀ c ∈ ls z, Sg c := by subst ez; decide +kernel
  clear ez
  have l26 : (ls (Str.ofString "abcdefghijklmnopqrstuvwxyz")).length = 26 := by decide +kernel
  have big : (100 : Nat) ≤ sizeLine := by decide
  simp (maxSteps := 4000000) only [wAll, List.map_cons, List.map_nil, List.length_cons, List.length_nil, List.append_nil, List.nil_append, List.cons_append, List.replicate_zero, List.replicate_succ, Nat.reduceAdd, Nat.reduceSub, List.getElem?_cons_zero, List.getElem?_cons_succ, Option.join_some, Option.join_none, List.set_cons_zero, List.set_cons_succ, decide_eq_true_eq, Bool.not_eq_true, Bool.not_eq_false, if_true, if_false, Bool.false_eq_true, eq_self, true_and, and_true, reduceCtorEq, Bool.not_true, Bool.not_false, later]
  refine gen_call (take_gen h (by omega) (by omega)) (fun _ q => q.nl) fun t s' hs => ?_
  rintro ⟨k, rfl, q1, q2⟩
  simp (maxSteps := 4000000) only [wAll, List.map_cons, List.map_nil, List.length_cons, List.length_nil, List.append_nil, List.nil_append, List.cons_append, List.replicate_zero, List.replicate_succ, Nat.reduceAdd, Nat.reduceSub, List.getElem?_cons_zero, List.getElem?_cons_succ, Option.join_some, Option.join_none, List.set_cons_zero, List.set_cons_succ, decide_eq_true_eq, Bool.not_eq_true, Bool.not_eq_false, if_true, if_false, Bool.false_eq_true, eq_self, true_and, and_true, reduceCtorEq, Bool.not_true, Bool.not_false]
  rw [later]
  simp (maxSteps := 4000000) only [wAll, List.map_cons, List.map_nil, List.length_cons, List.length_nil, List.append_nil, List.nil_append, List.cons_append, List.replicate_zero, List.replicate_succ, Nat.reduceAdd, Nat.reduceSub, List.getElem?_cons_zero, List.getElem?_cons_succ, Option.join_some, Option.join_none, List.set_cons_zero, List.set_cons_succ, decide_eq_true_eq, Bool.not_eq_true, Bool.not_eq_false, if_true, if_false, Bool.false_eq_true, eq_self, true_and, and_true, reduceCtorEq, Bool.not_true, Bool.not_false]
  refine ite_in (fun _ => ?_) fun _ => ?_
  · refine gen_call (take_gen hs (by omega) (by omega)) (fun _ q => q.nl) fun t s' hs => ?_
    rintro ⟨k, rfl, q1, q2⟩
    simp (maxSteps := 4000000) only [wAll, List.map_cons, List.map_nil, List.length_cons, List.length_nil, List.append_nil, List.nil_append, List.cons_append, List.replicate_zero, List.replicate_succ, Nat.reduceAdd, Nat.reduceSub, List.getElem?_cons_zero, List.getElem?_cons_succ, Option.join_some, Option.join_none, List.set_cons_zero, List.set_cons_succ, decide_eq_true_eq, Bool.not_eq_true, Bool.not_eq_false, if_true, if_false, Bool.false_eq_true, eq_self, true_and, and_true, reduceCtorEq, Bool.not_true, Bool.not_false, later]
    refine ix_str q1 (by omega) (by omega) fun c hc => ?_
    simp (maxSteps := 4000000) only [wAll, List.map_cons, List.map_nil, List.length_cons, List.length_nil, List.append_nil, List.nil_append, List.cons_append, List.replicate_zero, List.replicate_succ, Nat.reduceAdd, Nat.reduceSub, List.getElem?_cons_zero, List.getElem?_cons_succ, Option.join_some, Option.join_none, List.set_cons_zero, List.set_cons_succ, decide_eq_true_eq, Bool.not_eq_true, Bool.not_eq_false, if_true, if_false, Bool.false_eq_true, eq_self, true_and, and_true, reduceCtorEq, Bool.not_true, Bool.not_false, later]
    exact ⟨s', rfl, hs, _, rfl, c, [], rfl, by simp, low26 c hc, fun c hc => by cases hc⟩
  rw [later]
  simp (maxSteps := 4000000) only [wAll, List.map_cons, List.map_nil, List.length_cons, List.length_nil, List.append_nil, List.nil_append, List.cons_append, List.replicate_zero, List.replicate_succ, Nat.reduceAdd, Nat.reduceSub, List.getElem?_cons_zero, List.getElem?_cons_succ, Option.join_some, Option.join_none, List.set_cons_zero, List.set_cons_succ, decide_eq_true_eq, Bool.not_eq_true, Bool.not_eq_false, if_true, if_false, Bool.false_eq_true, eq_self, true_and, and_true, reduceCtorEq, Bool.not_true, Bool.not_false]
  refine ite_in (fun _ => ?_) fun _ => ?_
  · refine gen_call (take_gen hs (by omega) (by omega)) (fun _ q => q.nl) fun t s' hs => ?_
    rintro ⟨k, rfl, q1, q2⟩
    simp (maxSteps := 4000000) only [wAll, List.map_cons, List.map_nil, List.length_cons, List.length_nil, List.append_nil, List.nil_append, List.cons_append, List.replicate_zero, List.replicate_succ, Nat.reduceAdd, Nat.reduceSub, List.getElem?_cons_zero, List.getElem?_cons_succ, Option.join_some, Option.join_none, List.set_cons_zero, List.set_cons_succ, decide_eq_true_eq, Bool.not_eq_true, Bool.not_eq_false, if_true, if_false, Bool.false_eq_true, eq_self, true_and, and_true, reduceCtorEq, Bool.not_true, Bool.not_false, later]
    refine ix_str q1 (by have : (ls (Str.ofString "abuwz")).length = 5 := by decide +kernel
                         omega) (by decide +kernel) fun c hc => ?_
    simp (maxSteps := 4000000) only [wAll, List.map_cons, List.map_nil, List.length_cons, List.length_nil, List.append_nil, List.nil_append, List.cons_append, List.replicate_zero, List.replicate_succ, Nat.reduceAdd, Nat.reduceSub, List.getElem?_cons_zero, List.getElem?_cons_succ, Option.join_some, Option.join_none, List.set_cons_zero, List.set_cons_succ, decide_eq_true_eq, Bool.not_eq_true, Bool.not_eq_false, if_true, if_false, Bool.false_eq_true, eq_self, true_and, and_true, reduceCtorEq, Bool.not_true, Bool.not_false, later]
    refine gen_call (take_gen hs (by omega) (by omega)) (fun _ q => q.nl) fun t s' hs => ?_
    rintro ⟨k, rfl, q1, q2⟩
    simp (maxSteps := 4000000) only [wAll, List.map_cons, List.map_nil, List.length_cons, List.length_nil, List.append_nil, List.nil_append, List.cons_append, List.replicate_zero, List.replicate_succ, Nat.reduceAdd, Nat.reduceSub, List.getElem?_cons_zero, List.getElem?_cons_succ, Option.join_some, Option.join_none, List.set_cons_zero, List.set_cons_succ, decide_eq_true_eq, Bool.not_eq_true, Bool.not_eq_false, if_true, if_false, Bool.false_eq_true, eq_self, true_and, and_true, reduceCtorEq, Bool.not_true, Bool.not_false, later]
    refine ix_str q1 (by have : (ls (Str.ofString "0123456789")).length = 10 := by decide +kernel
                         omega) (by decide +kernel) fun d hd => ?_
    simp (maxSteps := 4000000) only [wAll, List.map_cons, List.map_nil, List.length_cons, List.length_nil, List.append_nil, List.nil_append, List.cons_append, List.replicate_zero, List.replicate_succ, Nat.reduceAdd, Nat.reduceSub, List.getElem?_cons_zero, List.getElem?_cons_succ, Option.join_some, Option.join_none, List.set_cons_zero, List.set_cons_succ, decide_eq_true_eq, Bool.not_eq_true, Bool.not_eq_false, if_true, if_false, Bool.false_eq_true, eq_self, true_and, and_true, reduceCtorEq, Bool.not_true, Bool.not_false, later]
    refine add_str (by rw [ls_one, ls_one]; simp; omega) ?_
    simp (maxSteps := 4000000) only [wAll, List.map_cons, List.map_nil, List.length_cons, List.length_nil, List.append_nil, List.nil_append, List.cons_append, List.replicate_zero, List.replicate_succ, Nat.reduceAdd, Nat.reduceSub, List.getElem?_cons_zero, List.getElem?_cons_succ, Option.join_some, Option.join_none, List.set_cons_zero, List.set_cons_succ, decide_eq_true_eq, Bool.not_eq_true, Bool.not_eq_false, if_true, if_false, Bool.false_eq_true, eq_self, true_and, and_true, reduceCtorEq, Bool.not_true, Bool.not_false, later]
    refine ⟨s', rfl, hs, _, rfl, c, [d], rfl, by simp, ?_, ?_⟩
    · have : ∀ c ∈ ls (Str.ofString "abuwz"), Lo c := by decide +kernel
      exact this c hc
    · have : ∀ c ∈ ls (Str.ofString "0123456789"), Sg c := by decide +kernel
      intro x hx
      rw [List.mem_singleton.mp hx]
      exact this d hd
  rw [later]
  simp (maxSteps := 4000000) only [wAll, List.map_cons, List.map_nil, List.length_cons, List.length_nil, List.append_nil, List.nil_append, List.cons_append, List.replicate_zero, List.replicate_succ, Nat.reduceAdd, Nat.reduceSub, List.getElem?_cons_zero, List.getElem?_cons_succ, Option.join_some, Option.join_none, List.set_cons_zero, List.set_cons_succ, decide_eq_true_eq, Bool.not_eq_true, Bool.not_eq_false, if_true, if_false, Bool.false_eq_true, eq_self, true_and, and_true, reduceCtorEq, Bool.not_true, Bool.not_false]
  refine ite_in (fun _ => ?_) fun _ => ?_
  · refine ⟨by decide, gen_call (one_gen hs (by simp) (by decide)) (fun t q => (rname_of (by decide +kernel) q).nl) fun t s' hs q => ?_⟩
    simp (maxSteps := 4000000) only [wAll, List.map_cons, List.map_nil, List.length_cons, List.length_nil, List.append_nil, List.nil_append, List.cons_append, List.replicate_zero, List.replicate_succ, Nat.reduceAdd, Nat.reduceSub, List.getElem?_cons_zero, List.getElem?_cons_succ, Option.join_some, Option.join_none, List.set_cons_zero, List.set_cons_succ, decide_eq_true_eq, Bool.not_eq_true, Bool.not_eq_false, if_true, if_false, Bool.false_eq_true, eq_self, true_and, and_true, reduceCtorEq, Bool.not_true, Bool.not_false, later]
    exact ⟨s', rfl, hs, rname_of (by decide +kernel) q⟩
  rw [later]
  simp (maxSteps := 4000000) only [wAll, List.map_cons, List.map_nil, List.length_cons, List.length_nil, List.append_nil, List.nil_append, List.cons_append, List.replicate_zero, List.replicate_succ, Nat.reduceAdd, Nat.reduceSub, List.getElem?_cons_zero, List.getElem?_cons_succ, Option.join_some, Option.join_none, List.set_cons_zero, List.set_cons_succ, decide_eq_true_eq, Bool.not_eq_true, Bool.not_eq_false, if_true, if_false, Bool.false_eq_true, eq_self, true_and, and_true, reduceCtorEq, Bool.not_true, Bool.not_false]
  refine ite_in (fun _ => ?_) fun _ => ?_
  · refine gen_call (range_gen hs (by omega) (by omega)) (fun _ q => q.nl) fun t s' hs => ?_
    rintro ⟨m, rfl, m1, m2⟩
    simp (maxSteps := 4000000) only [wAll, List.map_cons, List.map_nil, List.length_cons, List.length_nil, List.append_nil, List.nil_append, List.cons_append, List.replicate_zero, List.replicate_succ, Nat.reduceAdd, Nat.reduceSub, List.getElem?_cons_zero, List.getElem?_cons_succ, Option.join_some, Option.join_none, List.set_cons_zero, List.set_cons_succ, decide_eq_true_eq, Bool.not_eq_true, Bool.not_eq_false, if_true, if_false, Bool.false_eq_true, eq_self, true_and, and_true, reduceCtorEq, Bool.not_true, Bool.not_false, later]
    refine gen_call (take_gen hs (by omega) (by omega)) (fun _ q => q.nl) fun t s' hs => ?_
    rintro ⟨a, rfl, a1, a2⟩
    simp (maxSteps := 4000000) only [wAll, List.map_cons, List.map_nil, List.length_cons, List.length_nil, List.append_nil, List.nil_append, List.cons_append, List.replicate_zero, List.replicate_succ, Nat.reduceAdd, Nat.reduceSub, List.getElem?_cons_zero, List.getElem?_cons_succ, Option.join_some, Option.join_none, List.set_cons_zero, List.set_cons_succ, decide_eq_true_eq, Bool.not_eq_true, Bool.not_eq_false, if_true, if_false, Bool.false_eq_true, eq_self, true_and, and_true, reduceCtorEq, Bool.not_true, Bool.not_false, later]
    refine gen_call (take_gen hs (by omega) (by omega)) (fun _ q => q.nl) fun t s' hs => ?_
    rintro ⟨k, rfl, q1, q2⟩
    simp (maxSteps := 4000000) only [wAll, List.map_cons, List.map_nil, List.length_cons, List.length_nil, List.append_nil, List.nil_append, List.cons_append, List.replicate_zero, List.replicate_succ, Nat.reduceAdd, Nat.reduceSub, List.getElem?_cons_zero, List.getElem?_cons_succ, Option.join_some, Option.join_none, List.set_cons_zero, List.set_cons_succ, decide_eq_true_eq, Bool.not_eq_true, Bool.not_eq_false, if_true, if_false, Bool.false_eq_true, eq_self, true_and, and_true, reduceCtorEq, Bool.not_true, Bool.not_false, later]
    refine ix_str q1 (by omega) (by omega) fun c hc => ?_
    simp (maxSteps := 4000000) only [wAll, List.map_cons, List.map_nil, List.length_cons, List.length_nil, List.append_nil, List.nil_append, List.cons_append, List.replicate_zero, List.replicate_succ, Nat.reduceAdd, Nat.reduceSub, List.getElem?_cons_zero, List.getElem?_cons_succ, Option.join_some, Option.join_none, List.set_cons_zero, List.set_cons_succ, decide_eq_true_eq, Bool.not_eq_true, Bool.not_eq_false, if_true, if_false, Bool.false_eq_true, eq_self, true_and, and_true, reduceCtorEq, Bool.not_true, Bool.not_false]
    rw [later]
    simp (maxSteps := 4000000) only [wAll, List.map_cons, List.map_nil, List.length_cons, List.length_nil, List.append_nil, List.nil_append, List.cons_append, List.replicate_zero, List.replicate_succ, Nat.reduceAdd, Nat.reduceSub, List.getElem?_cons_zero, List.getElem?_cons_succ, Option.join_some, Option.join_none, List.set_cons_zero, List.set_cons_succ, decide_eq_true_eq, Bool.not_eq_true, Bool.not_eq_false, if_true, if_false, Bool.false_eq_true, eq_self, true_and, and_true, reduceCtorEq, Bool.not_true, Bool.not_false]
    have fin : ∀ (d : Nat) (s' : T), StOk s' → (a = 0 → Lo d) → Sg d → Gen RName (.str (cutS (Str.ofString "aaaaaaaa") none (some a) ++ ⟨#[d]⟩ ++ cutS (Str.ofString "aaaaaaaa") none (some (m - 1 - a)))) [s'] := fun d s' hs h1 h2 => by
      refine ⟨s', rfl, hs, _, rfl, ?_⟩
      rw [ls_append, ls_append, ls_one, cut_a a1 (by omega), cut_a (by omega) (by omega)]
      have tl : ∀ n, ∀ c ∈ List.replicate n 97, Sg c := fun n c hc => by rw [(List.mem_replicate.mp hc).2]; decide
      by_cases e : a = 0
      · subst e
        exact ⟨d, _, rfl, by simp; omega, h1 rfl, fun c hc => tl _ c (by simpa using hc)⟩
      · obtain ⟨n, hn⟩ : ∃ n, a.toNat = n + 1 := ⟨a.toNat - 1, by omega⟩
        rw [hn, List.replicate_succ]
        refine ⟨97, _, rfl, by simp; omega, by decide, fun c hc => ?_⟩
        rcases List.mem_append.mp hc with z | z
        · rcases List.mem_append.mp z with z | z
          · exact tl _ c z
          · rw [List.mem_singleton.mp z]; exact h2
        · exact tl _ c z
    have room : ∀ (d : Nat), (ls (cutS (Str.ofString "aaaaaaaa") none (some a))).length + (ls ⟨#[d]⟩).length ≤ sizeLine ∧ (ls (cutS (Str.ofString "aaaaaaaa") none (some a) ++ ⟨#[d]⟩)).length + (ls (cutS (Str.ofString "aaaaaaaa") none (some (m - 1 - a)))).length ≤ sizeLine := fun d => by
      rw [ls_append, cut_a a1 (by omega), cut_a (by omega) (by omega), ls_one]
      simp
      omega
    refine ite_in (fun _ => ?_) fun _ => ?_
    · refine gen_call (take_gen hs (by omega) (by omega)) (fun _ q => q.nl) fun t s' hs => ?_
      rintro ⟨k, rfl, q1, q2⟩
      simp (maxSteps := 4000000) only [wAll, List.map_cons, List.map_nil, List.length_cons, List.length_nil, List.append_nil, List.nil_append, List.cons_append, List.replicate_zero, List.replicate_succ, Nat.reduceAdd, Nat.reduceSub, List.getElem?_cons_zero, List.getElem?_cons_succ, Option.join_some, Option.join_none, List.set_cons_zero, List.set_cons_succ, decide_eq_true_eq, Bool.not_eq_true, Bool.not_eq_false, if_true, if_false, Bool.false_eq_true, eq_self, true_and, and_true, reduceCtorEq, Bool.not_true, Bool.not_false, later]
      refine ix_str q1 (by omega) (by omega) fun d hd => ?_
      simp (maxSteps := 4000000) only [wAll, List.map_cons, List.map_nil, List.length_cons, List.length_nil, List.append_nil, List.nil_append, List.cons_append, List.replicate_zero, List.replicate_succ, Nat.reduceAdd, Nat.reduceSub, List.getElem?_cons_zero, List.getElem?_cons_succ, Option.join_some, Option.join_none, List.set_cons_zero, List.set_cons_succ, decide_eq_true_eq, Bool.not_eq_true, Bool.not_eq_false, if_true, if_false, Bool.false_eq_true, eq_self, true_and, and_true, reduceCtorEq, Bool.not_true, Bool.not_false, later]
      refine sl_str_in (by decide +kernel) ?_
      simp (maxSteps := 4000000) only [wAll, List.map_cons, List.map_nil, List.length_cons, List.length_nil, List.append_nil, List.nil_append, List.cons_append, List.replicate_zero, List.replicate_succ, Nat.reduceAdd, Nat.reduceSub, List.getElem?_cons_zero, List.getElem?_cons_succ, Option.join_some, Option.join_none, List.set_cons_zero, List.set_cons_succ, decide_eq_true_eq, Bool.not_eq_true, Bool.not_eq_false, if_true, if_false, Bool.false_eq_true, eq_self, true_and, and_true, reduceCtorEq, Bool.not_true, Bool.not_false, later]
      refine add_str (room d).1 ?_
      simp (maxSteps := 4000000) only [wAll, List.map_cons, List.map_nil, List.length_cons, List.length_nil, List.append_nil, List.nil_append, List.cons_append, List.replicate_zero, List.replicate_succ, Nat.reduceAdd, Nat.reduceSub, List.getElem?_cons_zero, List.getElem?_cons_succ, Option.join_some, Option.join_none, List.set_cons_zero, List.set_cons_succ, decide_eq_true_eq, Bool.not_eq_true, Bool.not_eq_false, if_true, if_false, Bool.false_eq_true, eq_self, true_and, and_true, reduceCtorEq, Bool.not_true, Bool.not_false, later]
      refine sl_str_in (by decide +kernel) ?_
      simp (maxSteps := 4000000) only [wAll, List.map_cons, List.map_nil, List.length_cons, List.length_nil, List.append_nil, List.nil_append, List.cons_append, List.replicate_zero, List.replicate_succ, Nat.reduceAdd, Nat.reduceSub, List.getElem?_cons_zero, List.getElem?_cons_succ, Option.join_some, Option.join_none, List.set_cons_zero, List.set_cons_succ, decide_eq_true_eq, Bool.not_eq_true, Bool.not_eq_false, if_true, if_false, Bool.false_eq_true, eq_self, true_and, and_true, reduceCtorEq, Bool.not_true, Bool.not_false, later]
      refine add_str (room d).2 ?_
      simp (maxSteps := 4000000) only [wAll, List.map_cons, List.map_nil, List.length_cons, List.length_nil, List.append_nil, List.nil_append, List.cons_append, List.replicate_zero, List.replicate_succ, Nat.reduceAdd, Nat.reduceSub, List.getElem?_cons_zero, List.getElem?_cons_succ, Option.join_some, Option.join_none, List.set_cons_zero, List.set_cons_succ, decide_eq_true_eq, Bool.not_eq_true, Bool.not_eq_false, if_true, if_false, Bool.false_eq_true, eq_self, true_and, and_true, reduceCtorEq, Bool.not_true, Bool.not_false, later]
      exact fin d s' hs (by omega) (hz2 d hd)
    · simp (maxSteps := 4000000) only [wAll, List.map_cons, List.map_nil, List.length_cons, List.length_nil, List.append_nil, List.nil_append, List.cons_append, List.replicate_zero, List.replicate_succ, Nat.reduceAdd, Nat.reduceSub, List.getElem?_cons_zero, List.getElem?_cons_succ, Option.join_some, Option.join_none, List.set_cons_zero, List.set_cons_succ, decide_eq_true_eq, Bool.not_eq_true, Bool.not_eq_false, if_true, if_false, Bool.false_eq_true, eq_self, true_and, and_true, reduceCtorEq, Bool.not_true, Bool.not_false, later]
      refine sl_str_in (by decide +kernel) ?_
      simp (maxSteps := 4000000) only [wAll, List.map_cons, List.map_nil, List.length_cons, List.length_nil, List.append_nil, List.nil_append, List.cons_append, List.replicate_zero, List.replicate_succ, Nat.reduceAdd, Nat.reduceSub, List.getElem?_cons_zero, List.getElem?_cons_succ, Option.join_some, Option.join_none, List.set_cons_zero, List.set_cons_succ, decide_eq_true_eq, Bool.not_eq_true, Bool.not_eq_false, if_true, if_false, Bool.false_eq_true, eq_self, true_and, and_true, reduceCtorEq, Bool.not_true, Bool.not_false, later]
      refine add_str (room c).1 ?_
      simp (maxSteps := 4000000) only [wAll, List.map_cons, List.map_nil, List.length_cons, List.length_nil, List.append_nil, List.nil_append, List.cons_append, List.replicate_zero, List.replicate_succ, Nat.reduceAdd, Nat.reduceSub, List.getElem?_cons_zero, List.getElem?_cons_succ, Option.join_some, Option.join_none, List.set_cons_zero, List.set_cons_succ, decide_eq_true_eq, Bool.not_eq_true, Bool.not_eq_false, if_true, if_false, Bool.false_eq_true, eq_self, true_and, and_true, reduceCtorEq, Bool.not_true, Bool.not_false, later]
      refine sl_str_in (by decide +kernel) ?_
      simp (maxSteps := 4000000) only [wAll, List.map_cons, List.map_nil, List.length_cons, List.length_nil, List.append_nil, List.nil_append, List.cons_append, List.replicate_zero, List.replicate_succ, Nat.reduceAdd, Nat.reduceSub, List.getElem?_cons_zero, List.getElem?_cons_succ, Option.join_some, Option.join_none, List.set_cons_zero, List.set_cons_succ, decide_eq_true_eq, Bool.not_eq_true, Bool.not_eq_false, if_true, if_false, Bool.false_eq_true, eq_self, true_and, and_true, reduceCtorEq, Bool.not_true, Bool.not_false, later]
      refine add_str (room c).2 ?_
      simp (maxSteps := 4000000) only [wAll, List.map_cons, List.map_nil, List.length_cons, List.length_nil, List.append_nil, List.nil_append, List.cons_append, List.replicate_zero, List.replicate_succ, Nat.reduceAdd, Nat.reduceSub, List.getElem?_cons_zero, List.getElem?_cons_succ, Option.join_some, Option.join_none, List.set_cons_zero, List.set_cons_succ, decide_eq_true_eq, Bool.not_eq_true, Bool.not_eq_false, if_true, if_false, Bool.false_eq_true, eq_self, true_and, and_true, reduceCtorEq, Bool.not_true, Bool.not_false, later]
      exact fin c s' hs (fun _ => low26 c hc) (low26 c hc).sg
  simp (maxSteps := 4000000) only [wAll, List.map_cons, List.map_nil, List.length_cons, List.length_nil, List.append_nil, List.nil_append, List.cons_append, List.replicate_zero, List.replicate_succ, Nat.reduceAdd, Nat.reduceSub, List.getElem?_cons_zero, List.getElem?_cons_succ, Option.join_some, Option.join_none, List.set_cons_zero, List.set_cons_succ, decide_eq_true_eq, Bool.not_eq_true, Bool.not_eq_false, if_true, if_false, Bool.false_eq_true, eq_self, true_and, and_true, reduceCtorEq, Bool.not_true, Bool.not_false, later]
  refine ite_in (fun _ => ?_) fun _ => ?_
  · refine gen_call (range_gen hs (by omega) (by omega)) (fun _ q => q.nl) fun t s' hs => ?_
    rintro ⟨m, rfl, m1, m2⟩
    simp (maxSteps := 4000000) only [wAll, List.map_cons, List.map_nil, List.length_cons, List.length_nil, List.append_nil, List.nil_append, List.cons_append, List.replicate_zero, List.replicate_succ, Nat.reduceAdd, Nat.reduceSub, List.getElem?_cons_zero, List.getElem?_cons_succ, Option.join_some, Option.join_none, List.set_cons_zero, List.set_cons_succ, decide_eq_true_eq, Bool.not_eq_true, Bool.not_eq_false, if_true, if_false, Bool.false_eq_true, eq_self, true_and, and_true, reduceCtorEq, Bool.not_true, Bool.not_false, later]
    refine gen_call (take_gen hs (by omega) (by omega)) (fun _ q => q.nl) fun t s' hs => ?_
    rintro ⟨b, rfl, b1, b2⟩
    simp (maxSteps := 4000000) only [wAll, List.map_cons, List.map_nil, List.length_cons, List.length_nil, List.append_nil, List.nil_append, List.cons_append, List.replicate_zero, List.replicate_succ, Nat.reduceAdd, Nat.reduceSub, List.getElem?_cons_zero, List.getElem?_cons_succ, Option.join_some, Option.join_none, List.set_cons_zero, List.set_cons_succ, decide_eq_true_eq, Bool.not_eq_true, Bool.not_eq_false, if_true, if_false, Bool.false_eq_true, eq_self, true_and, and_true, reduceCtorEq, Bool.not_true, Bool.not_false, later]
    refine ix_str b1 (by omega) (by omega) fun c hc => ?_
    simp (maxSteps := 4000000) only [wAll, List.map_cons, List.map_nil, List.length_cons, List.length_nil, List.append_nil, List.nil_append, List.cons_append, List.replicate_zero, List.replicate_succ, Nat.reduceAdd, Nat.reduceSub, List.getElem?_cons_zero, List.getElem?_cons_succ, Option.join_some, Option.join_none, List.set_cons_zero, List.set_cons_succ, decide_eq_true_eq, Bool.not_eq_true, Bool.not_eq_false, if_true, if_false, Bool.false_eq_true, eq_self, true_and, and_true, reduceCtorEq, Bool.not_true, Bool.not_false, later]
    refine ⟨by (first | omega | (unfold RngOk; omega) | (unfold MulOk; omega) | (simp; omega) | (simp <;> omega)), ?_⟩
    refine forL_inv (fun its e => ∃ s' f o, e = [some s', some (.str "abcdefghijklmnopqrstuvwxyz"), some (.str z), some (.int k), some (.int m), some (.str f), o, none, none] ∧ StOk s' ∧ its.length ≤ 7 ∧ NameL (8 - its.length) (ls f)) ?_ ?_ _ _ ⟨s', _, none, rfl, hs, by simp; omega, c, [], rfl, by simp; omega, low26 c hc, fun c hc => by cases hc⟩
    · rintro t ts e ⟨s', f, o, rfl, hs, hl, hf⟩
      replace hl : ts.length + 1 ≤ 7 := hl
      replace hf : NameL (8 - (ts.length + 1)) (ls f) := hf
      simp (maxSteps := 4000000) only [wAll, List.map_cons, List.map_nil, List.length_cons, List.length_nil, List.append_nil, List.nil_append, List.cons_append, List.replicate_zero, List.replicate_succ, Nat.reduceAdd, Nat.reduceSub, List.getElem?_cons_zero, List.getElem?_cons_succ, Option.join_some, Option.join_none, List.set_cons_zero, List.set_cons_succ, decide_eq_true_eq, Bool.not_eq_true, Bool.not_eq_false, if_true, if_false, Bool.false_eq_true, eq_self, true_and, and_true, reduceCtorEq, Bool.not_true, Bool.not_false]
      refine gen_call (take_gen hs (by omega) (by omega)) (fun _ q => q.nl) fun t s' hs => ?_
      rintro ⟨d, rfl, d1, d2⟩
      simp (maxSteps := 4000000) only [wAll, List.map_cons, List.map_nil, List.length_cons, List.length_nil, List.append_nil, List.nil_append, List.cons_append, List.replicate_zero, List.replicate_succ, Nat.reduceAdd, Nat.reduceSub, List.getElem?_cons_zero, List.getElem?_cons_succ, Option.join_some, Option.join_none, List.set_cons_zero, List.set_cons_succ, decide_eq_true_eq, Bool.not_eq_true, Bool.not_eq_false, if_true, if_false, Bool.false_eq_true, eq_self, true_and, and_true, reduceCtorEq, Bool.not_true, Bool.not_false]
      refine ix_str d1 (by omega) (by omega) fun x hx => ?_
      simp (maxSteps := 4000000) only [wAll, List.map_cons, List.map_nil, List.length_cons, List.length_nil, List.append_nil, List.nil_append, List.cons_append, List.replicate_zero, List.replicate_succ, Nat.reduceAdd, Nat.reduceSub, List.getElem?_cons_zero, List.getElem?_cons_succ, Option.join_some, Option.join_none, List.set_cons_zero, List.set_cons_succ, decide_eq_true_eq, Bool.not_eq_true, Bool.not_eq_false, if_true, if_false, Bool.false_eq_true, eq_self, true_and, and_true, reduceCtorEq, Bool.not_true, Bool.not_false]
      refine add_str (by have := hf.len; rw [ls_one]; show _ + 1 ≤ sizeLine; omega) ?_
      simp (maxSteps := 4000000) only [wAll, List.map_cons, List.map_nil, List.length_cons, List.length_nil, List.append_nil, List.nil_append, List.cons_append, List.replicate_zero, List.replicate_succ, Nat.reduceAdd, Nat.reduceSub, List.getElem?_cons_zero, List.getElem?_cons_succ, Option.join_some, Option.join_none, List.set_cons_zero, List.set_cons_succ, decide_eq_true_eq, Bool.not_eq_true, Bool.not_eq_false, if_true, if_false, Bool.false_eq_true, eq_self, true_and, and_true, reduceCtorEq, Bool.not_true, Bool.not_false]
      refine ⟨s', _, _, rfl, hs, by omega, ?_⟩
      rw [ls_append, ls_one]
      exact (hf.add (m := 1) (fun y hy => by rw [List.mem_singleton.mp hy]; exact hz2 x hx) (by simp)).weak (by omega)
    · rintro e ⟨s', f, o, rfl, hs, hl, hf⟩
      simp (maxSteps := 4000000) only [wAll, List.map_cons, List.map_nil, List.length_cons, List.length_nil, List.append_nil, List.nil_append, List.cons_append, List.replicate_zero, List.replicate_succ, Nat.reduceAdd, Nat.reduceSub, List.getElem?_cons_zero, List.getElem?_cons_succ, Option.join_some, Option.join_none, List.set_cons_zero, List.set_cons_succ, decide_eq_true_eq, Bool.not_eq_true, Bool.not_eq_false, if_true, if_false, Bool.false_eq_true, eq_self, true_and, and_true, reduceCtorEq, Bool.not_true, Bool.not_false, later]
      exact ⟨s', rfl, hs, _, rfl, hf⟩
  · refine gen_call (take_gen hs (by omega) (by omega)) (fun _ q => q.nl) fun t s' hs => ?_
    rintro ⟨b, rfl, b1, b2⟩
    simp (maxSteps := 4000000) only [wAll, List.map_cons, List.map_nil, List.length_cons, List.length_nil, List.append_nil, List.nil_append, List.cons_append, List.replicate_zero, List.replicate_succ, Nat.reduceAdd, Nat.reduceSub, List.getElem?_cons_zero, List.getElem?_cons_succ, Option.join_some, Option.join_none, List.set_cons_zero, List.set_cons_succ, decide_eq_true_eq, Bool.not_eq_true, Bool.not_eq_false, if_true, if_false, Bool.false_eq_true, eq_self, true_and, and_true, reduceCtorEq, Bool.not_true, Bool.not_false, later]
    refine ix_str b1 (by omega) (by omega) fun c hc => ?_
    simp (maxSteps := 4000000) only [wAll, List.map_cons, List.map_nil, List.length_cons, List.length_nil, List.append_nil, List.nil_append, List.cons_append, List.replicate_zero, List.replicate_succ, Nat.reduceAdd, Nat.reduceSub, List.getElem?_cons_zero, List.getElem?_cons_succ, Option.join_some, Option.join_none, List.set_cons_zero, List.set_cons_succ, decide_eq_true_eq, Bool.not_eq_true, Bool.not_eq_false, if_true, if_false, Bool.false_eq_true, eq_self, true_and, and_true, reduceCtorEq, Bool.not_true, Bool.not_false, later]
    refine ⟨by (first | omega | (unfold RngOk; omega) | (unfold MulOk; omega) | (simp; omega) | (simp <;> omega)), ?_⟩
    refine forL_inv (fun its e => ∃ s' f o, e = [some s', some (.str "abcdefghijklmnopqrstuvwxyz"), some (.str z), some (.int k), some (.int 8), some (.str f), o, none, none] ∧ StOk s' ∧ its.length ≤ 7 ∧ NameL (8 - its.length) (ls f)) ?_ ?_ _ _ ⟨s', _, none, rfl, hs, by simp <;> omega, c, [], rfl, by simp <;> omega, low26 c hc, fun c hc => by cases hc⟩
    · rintro t ts e ⟨s', f, o, rfl, hs, hl, hf⟩
      replace hl : ts.length + 1 ≤ 7 := hl
      replace hf : NameL (8 - (ts.length + 1)) (ls f) := hf
      simp (maxSteps := 4000000) only [wAll, List.map_cons, List.map_nil, List.length_cons, List.length_nil, List.append_nil, List.nil_append, List.cons_append, List.replicate_zero, List.replicate_succ, Nat.reduceAdd, Nat.reduceSub, List.getElem?_cons_zero, List.getElem?_cons_succ, Option.join_some, Option.join_none, List.set_cons_zero, List.set_cons_succ, decide_eq_true_eq, Bool.not_eq_true, Bool.not_eq_false, if_true, if_false, Bool.false_eq_true, eq_self, true_and, and_true, reduceCtorEq, Bool.not_true, Bool.not_false]
      refine gen_call (take_gen hs (by omega) (by omega)) (fun _ q => q.nl) fun t s' hs => ?_
      rintro ⟨d, rfl, d1, d2⟩
      simp (maxSteps := 4000000) only [wAll, List.map_cons, List.map_nil, List.length_cons, List.length_nil, List.append_nil, List.nil_append, List.cons_append, List.replicate_zero, List.replicate_succ, Nat.reduceAdd, Nat.reduceSub, List.getElem?_cons_zero, List.getElem?_cons_succ, Option.join_some, Option.join_none, List.set_cons_zero, List.set_cons_succ, decide_eq_true_eq, Bool.not_eq_true, Bool.not_eq_false, if_true, if_false, Bool.false_eq_true, eq_self, true_and, and_true, reduceCtorEq, Bool.not_true, Bool.not_false]
      refine ix_str d1 (by omega) (by omega) fun x hx => ?_
      simp (maxSteps := 4000000) only [wAll, List.map_cons, List.map_nil, List.length_cons, List.length_nil, List.append_nil, List.nil_append, List.cons_append, List.replicate_zero, List.replicate_succ, Nat.reduceAdd, Nat.reduceSub, List.getElem?_cons_zero, List.getElem?_cons_succ, Option.join_some, Option.join_none, List.set_cons_zero, List.set_cons_succ, decide_eq_true_eq, Bool.not_eq_true, Bool.not_eq_false, if_true, if_false, Bool.false_eq_true, eq_self, true_and, and_true, reduceCtorEq, Bool.not_true, Bool.not_false]
      refine add_str (by have := hf.len; rw [ls_one]; show _ + 1 ≤ sizeLine; omega) ?_
      simp (maxSteps := 4000000) only [wAll, List.map_cons, List.map_nil, List.length_cons, List.length_nil, List.append_nil, List.nil_append, List.cons_append, List.replicate_zero, List.replicate_succ, Nat.reduceAdd, Nat.reduceSub, List.getElem?_cons_zero, List.getElem?_cons_succ, Option.join_some, Option.join_none, List.set_cons_zero, List.set_cons_succ, decide_eq_true_eq, Bool.not_eq_true, Bool.not_eq_false, if_true, if_false, Bool.false_eq_true, eq_self, true_and, and_true, reduceCtorEq, Bool.not_true, Bool.not_false]
      refine ⟨s', _, _, rfl, hs, by omega, ?_⟩
      rw [ls_append, ls_one]
      exact (hf.add (m := 1) (fun y hy => by rw [List.mem_singleton.mp hy]; exact hz2 x hx) (by simp)).weak (by omega)
    · rintro e ⟨s', f, o, rfl, hs, hl, hf⟩
      simp (maxSteps := 4000000) only [wAll, List.map_cons, List.map_nil, List.length_cons, List.length_nil, List.append_nil, List.nil_append, List.cons_append, List.replicate_zero, List.replicate_succ, Nat.reduceAdd, Nat.reduceSub, List.getElem?_cons_zero, List.getElem?_cons_succ, Option.join_some, Option.join_none, List.set_cons_zero, List.set_cons_succ, decide_eq_true_eq, Bool.not_eq_true, Bool.not_eq_false, if_true, if_false, Bool.false_eq_true, eq_self, true_and, and_true, reduceCtorEq, Bool.not_true, Bool.not_false, later]
      exact ⟨s', rfl, hs, _, rfl, hf⟩
end Mir
namespace Mir
open PySem PySem.Spec L2
structure FinT (w d : Nat) (t : T) : Prop where
  sh : (toPy t).showable = true
  lay : (toPy t).canLay0 = true
  dp : (toPy t).depth ≤ d
  len : (toPy t).shown.length ≤ w
  str : ∀ s, t = .str s → (ls s).length ≤ w
theorem FinT.weak {w d w' d' : Nat} {t : T} (h : FinT w d t) (h1 : w ≤ w') (h2 : d ≤ d') : FinT w' d' t := ⟨h.sh, h.lay, Nat.le_trans h.dp h2, Nat.le_trans h.len h1, fun s e => Nat.le_trans (h.str s e) h1⟩
theorem fin_int {i : Int} (h : -(10 ^ 20) ≤ i ∧ i ≤ 10 ^ 20) : FinT 30 0 (.int i) := by
  have hn : i.natAbs < 10 ^ 21 := by omega
  refine ⟨?_, by rfl, by show PyData.depth (.int i) ≤ 0; rw [PyData.depth.eq_6]; exact Nat.le_refl 0, ?_, fun s e => by cases e⟩
  · show decide (i.natAbs.log2 < 1920) = true
    refine decide_eq_true ?_
    by_cases z : i.natAbs = 0
    · rw [z]; decide
    · exact (Nat.log2_lt z).mpr (Nat.lt_of_lt_of_le hn (by
        calc (10 : Nat) ^ 21 ≤ 2 ^ 100 := by decide
          _ ≤ 2 ^ 1920 := Nat.pow_le_pow_right (by decide) (by decide)))
  · show (PyData.shown (.int i)).length ≤ 30
    rw [PyData.shown.eq_3, ofString_length]
    have := int_text_length_le10 (a := i) (k := 21) (by decide) hn
    omega
theorem fin_str {s : Str} {n : Nat} (h : (ls s).length ≤ n) (hc : ∀ c ∈ ls s, c < 1114112) : FinT (10 * n + 2) 0 (.str s) := by
  refine ⟨by rfl, ?_, by show PyData.depth (.str s) ≤ 0; simp [PyData.depth], ?_, fun s e => by cases e; omega⟩
  · show PyData.canLay0 (.str s) = true
    unfold PyData.canLay0
    unfold PyData.strOk
    rw [Array.all_eq_true_iff_forall_mem]
    intro c m
    exact decide_eq_true (hc c (by show c ∈ s.cps.toList; simpa using m))
  · show (PyData.shown (.str s)).length ≤ 10 * n + 2
    have e : PyData.shown (.str s) = reprText s := by simp [PyData.shown]
    rw [e]
    have := StrLaws.reprText_len s fun c m => Nat.lt_trans (hc c m) (by decide)
    rw [ls_len s] at this
    omega
theorem shownAll_map : ∀ ts : List PyData, PyData.shownAll ts = ts.map PyData.shown
  | [] => by simp [PyData.shownAll]
  | t :: ts => by simp [PyData.shownAll, shownAll_map ts]
theorem showableAll_of : ∀ {ts : List T}, (∀ t ∈ ts, (toPy t).showable = true) → PyData.showableAll (toPys ts) = true
  | [], _ => by simp [toPys, PyData.showableAll]
  | t :: ts, h => by
    simp only [toPys, PyData.showableAll, Bool.and_eq_true]
    exact ⟨h t (List.mem_cons_self ..), showableAll_of fun u hu => h u (List.mem_cons_of_mem _ hu)⟩
theorem canLayAll_of : ∀ {ts : List T}, (∀ t ∈ ts, (toPy t).canLay0 = true) → PyData.canLayAll0 (toPys ts) = true
  | [], _ => by simp [toPys, PyData.canLayAll0]
  | t :: ts, h => by
    simp only [toPys, PyData.canLayAll0, Bool.and_eq_true]
    exact ⟨h t (List.mem_cons_self ..), canLayAll_of fun u hu => h u (List.mem_cons_of_mem _ hu)⟩
theorem depthAll_of {d : Nat} : ∀ {ts : List T}, (∀ t ∈ ts, (toPy t).depth ≤ d) → PyData.depthAll (toPys ts) ≤ d
  | [], _ => by simp [toPys, PyData.depthAll]
  | t :: ts, h => by
    simp only [toPys, PyData.depthAll]
    exact Nat.max_le.mpr ⟨h t (List.mem_cons_self ..), depthAll_of fun u hu => h u (List.mem_cons_of_mem _ hu)⟩
theorem textFrom_up : ∀ (ts : List Str) (k : Nat) (acc : Str), (textFrom k acc ts).length ≤ acc.length + piled ts
  | [], _, _ => Nat.le_refl _
  | t :: ts, k, acc => by
    have ih := textFrom_up ts (k + 1) (acc ++ (if k > 0 then ", " else "" : String) ++ t)
    rw [strLen_append, strLen_append] at ih
    rw [piled_cons]
    have e : ((if k > 0 then ", " else "" : String) : Str).length ≤ 2 := by split <;> decide +kernel
    show (textFrom (k + 1) (acc ++ (if k > 0 then ", " else "" : String) ++ t) ts).length ≤ _
    omega
theorem listText_up (ts : List Str) : (listText ts).length ≤ piled ts + 2 := by
  unfold listText
  rw [strLen_append]
  have := textFrom_up ts 0 "["
  have e1 : (("[" : String) : Str).length = 1 := by decide +kernel
  have e2 : (("]" : String) : Str).length = 1 := by decide +kernel
  omega
theorem tupleText_up (ts : List Str) : (tupleText ts).length ≤ piled ts + 3 := by
  unfold tupleText
  rw [strLen_append, strLen_append]
  have e1 : (("(" : String) : Str).length = 1 := by decide +kernel
  have e2 : ((if ts.length == 1 then ",)" else ")" : String) : Str).length ≤ 2 := by split <;> decide +kernel
  have e3 : (Str.join ", " ts).length ≤ piled ts := by
    by_cases z : ts = []
    · subst z; decide +kernel
    · have := join_length_add ts z; omega
  omega
theorem piled_up {w : Nat} : ∀ {ts : List T}, (∀ t ∈ ts, (toPy t).shown.length ≤ w) → piled ((toPys ts).map PyData.shown) ≤ ts.length * (w + 2)
  | [], _ => by simp [toPys, piled]
  | t :: ts, h => by
    have := piled_up (ts := ts) fun u hu => h u (List.mem_cons_of_mem _ hu)
    have h1 := h t (List.mem_cons_self ..)
    simp only [toPys, List.map_cons, piled_cons, List.length_cons]
    rw [Nat.succ_mul]
    omega
theorem fin_tup {w d : Nat} {ts : List T} (h : ∀ t ∈ ts, FinT w d t) : FinT (ts.length * (w + 2) + 3) (d + 1) (.tup ts) := by
  refine ⟨?_, ?_, ?_, ?_, fun s e => by cases e⟩
  · show PyData.showable (.tuple (toPys ts)) = true
    unfold PyData.showable
    exact showableAll_of fun t ht => (h t ht).sh
  · show PyData.canLay0 (.tuple (toPys ts)) = true
    unfold PyData.canLay0
    exact canLayAll_of fun t ht => (h t ht).lay
  · show PyData.depth (.tuple (toPys ts)) ≤ d + 1
    unfold PyData.depth
    exact Nat.succ_le_succ (depthAll_of fun t ht => (h t ht).dp)
  · show (PyData.shown (.tuple (toPys ts))).length ≤ _
    unfold PyData.shown
    rw [shownAll_map]
    have := tupleText_up ((toPys ts).map PyData.shown)
    have := piled_up fun t ht => (h t ht).len
    omega
theorem fin_lst {w d : Nat} {ts : List T} (h : ∀ t ∈ ts, FinT w d t) : FinT (ts.length * (w + 2) + 3) (d + 1) (.lst ts) := by
  refine ⟨?_, ?_, ?_, ?_, fun s e => by cases e⟩
  · show PyData.showable (.list (toPys ts)) = true
    unfold PyData.showable
    exact showableAll_of fun t ht => (h t ht).sh
  · show PyData.canLay0 (.list (toPys ts)) = true
    unfold PyData.canLay0
    exact canLayAll_of fun t ht => (h t ht).lay
  · show PyData.depth (.list (toPys ts)) ≤ d + 1
    unfold PyData.depth
    exact Nat.succ_le_succ (depthAll_of fun t ht => (h t ht).dp)
  · show (PyData.shown (.list (toPys ts))).length ≤ _
    unfold PyData.shown
    rw [shownAll_map]
    have := listText_up ((toPys ts).map PyData.shown)
    have := piled_up fun t ht => (h t ht).len
    omega
theorem fin_of {w d : Nat} {t u : T} (h : FinT w d t) (e : toPy u = toPy t) (hs : ∀ s, u = .str s → t = .str s) : FinT w d u := ⟨by rw [e]; exact h.sh, by rw [e]; exact h.lay, by rw [e]; exact h.dp, by rw [e]; exact h.len, fun s z => h.str s (hs s z)⟩
theorem fin_own {w d : Nat} {ts : List T} (h : ∀ t ∈ ts, FinT w d t) : FinT (ts.length * (w + 2) + 3) (d + 1) (.own ts) := fin_of (fin_lst h) rfl fun s e => by cases e
theorem RName.fin {t : T} (h : RName t) : FinT 82 0 t := by
  obtain ⟨s, rfl, h⟩ := h
  exact fin_str h.len.2 fun c hc => by
    have := h.all c hc
    unfold Sg at this
    omega
theorem RInt.fin {t : T} (h : RInt (-(10 ^ 20)) (10 ^ 20) t) : FinT 30 0 t := by
  obtain ⟨k, rfl, h⟩ := h
  exact fin_int h
theorem RS.fin {n : Nat} {t : T} (h : RS Pr n t) : FinT (10 * n + 2) 0 t := by
  obtain ⟨s, rfl, h, hc⟩ := h
  exact fin_str h fun c m => by have := hc c m; omega
end Mir
namespace Mir
open PySem PySem.Spec L2
def FlatR (w d : Nat) : T → Prop := fun t => noLst t = true ∧ FinT w d t
theorem FlatR.nl {w d : Nat} {t : T} {p : Prop} (h : FlatR w d t) : noLst t = true ∨ p := .inl h.1
end Mir
namespace Mir
open PySem PySem.Spec L2
end Mir
namespace Mir
open PySem PySem.Spec L2
end Mir
namespace Mir
open PySem PySem.Spec L2
theorem store_ok (ns : List Int) (h : ns.length ≤ 63) : SatF (m__law_store [.rol (ns.map .int)]) (fun t ts => ts = [] ∧ StOk t) X0 := by
  have big : (1000 : Nat) ≤ sizeLine := by decide
  unfold m__law_store b__law_store
  simp (maxSteps := 4000000) only [wAll, List.map_cons, List.map_nil, List.length_cons, List.length_nil, List.append_nil, List.nil_append, List.cons_append, List.replicate_zero, List.replicate_succ, Nat.reduceAdd, Nat.reduceSub, List.getElem?_cons_zero, List.getElem?_cons_succ, Option.join_some, Option.join_none, List.set_cons_zero, List.set_cons_succ, decide_eq_true_eq, Bool.not_eq_true, Bool.not_eq_false, if_true, if_false, Bool.false_eq_true, eq_self, true_and, and_true, reduceCtorEq, Bool.not_true, Bool.not_false]
  refine OptP.of (a := ns.map .int) rfl ?_
  simp (maxSteps := 4000000) only [wAll, List.map_cons, List.map_nil, List.length_cons, List.length_nil, List.append_nil, List.nil_append, List.cons_append, List.replicate_zero, List.replicate_succ, Nat.reduceAdd, Nat.reduceSub, List.getElem?_cons_zero, List.getElem?_cons_succ, Option.join_some, Option.join_none, List.set_cons_zero, List.set_cons_succ, decide_eq_true_eq, Bool.not_eq_true, Bool.not_eq_false, if_true, if_false, Bool.false_eq_true, eq_self, true_and, and_true, reduceCtorEq, Bool.not_true, Bool.not_false]
  refine ⟨rfl, lc_map (fun x y => y = x) _ rfl (fun x hx => by obtain ⟨c, _, rfl⟩ := List.mem_map.mp hx; rfl) (by rw [List.length_map]; omega) (fun x hx => ?_) fun ys hy => ?_⟩
  · obtain ⟨c, _, rfl⟩ := List.mem_map.mp hx
    simp (maxSteps := 4000000) only [wAll, List.map_cons, List.map_nil, List.length_cons, List.length_nil, List.append_nil, List.nil_append, List.cons_append, List.replicate_zero, List.replicate_succ, Nat.reduceAdd, Nat.reduceSub, List.getElem?_cons_zero, List.getElem?_cons_succ, Option.join_some, Option.join_none, List.set_cons_zero, List.set_cons_succ, decide_eq_true_eq, Bool.not_eq_true, Bool.not_eq_false, if_true, if_false, Bool.false_eq_true, eq_self, true_and, and_true, reduceCtorEq, Bool.not_true, Bool.not_false]
  · have e := hy.map_eq (g := id)
    rw [List.map_id] at e
    subst e
    simp (maxSteps := 4000000) only [wAll, List.map_cons, List.map_nil, List.length_cons, List.length_nil, List.append_nil, List.nil_append, List.cons_append, List.replicate_zero, List.replicate_succ, Nat.reduceAdd, Nat.reduceSub, List.getElem?_cons_zero, List.getElem?_cons_succ, Option.join_some, Option.join_none, List.set_cons_zero, List.set_cons_succ, decide_eq_true_eq, Bool.not_eq_true, Bool.not_eq_false, if_true, if_false, Bool.false_eq_true, eq_self, true_and, and_true, reduceCtorEq, Bool.not_true, Bool.not_false]
    refine ⟨by decide, _, 0, 0, 0, 0, rfl⟩
end Mir
namespace Mir
open PySem PySem.Spec L2
theorem str_ext {a b : Str} (h : ls a = ls b) : a = b := by
  obtain ⟨⟨x⟩⟩ := a
  obtain ⟨⟨y⟩⟩ := b
  have h : x = y := h
  rw [h]
def sLt (a b : Str) : Prop := ls a < ls b
instance (a b : Str) : Decidable (sLt a b) := inferInstanceAs (Decidable (ls a < ls b))
def sLe (a b : Str) : Bool := !decide (sLt b a)
def stsT (l : List Str) : List T := l.map .str
theorem fold_sts {l : List Str} : l.map T.str = stsT l := rfl
theorem noOwn_sts (l : List Str) : noOwns (stsT l) = true := noOwns_map (fun _ => rfl) l
theorem tup_sts {l : List Str} : tupT (.own (stsT l)) = some (.tup (stsT l)) := tup_map (fun _ => rfl) l
theorem alist_sts {l : List Str} : alist? (.own (stsT l)) = some (stsT l) := alist_map (fun _ => rfl) l
theorem list_sts {l : List Str} : list? (.own (stsT l)) = some (stsT l) := list_map (fun _ => rfl) l
theorem flat_sts {l : List Str} : flat? (.own (stsT l)) = some (stsT l) := flat_map (fun _ => rfl) l
theorem its_sts {l : List Str} : itsT (.own (stsT l)) = some (stsT l) := its_map (fun _ => rfl) l
theorem sts_len (l : List Str) : (stsT l).length = l.length := by unfold stsT; rw [List.length_map]
theorem sts_app (a b : List Str) : stsT (a ++ b) = stsT a ++ stsT b := List.map_append
theorem sts_app1 {a : List Str} {b : Str} : stsT a ++ [.str b] = stsT (a ++ [b]) := by rw [sts_app]; rfl
theorem sLt_irrefl (a : Str) : ¬ sLt a a := List.lt_irrefl _
theorem sLt_trans {a b c : Str} (h1 : sLt a b) (h2 : sLt b c) : sLt a c := List.lt_trans h1 h2
theorem sLt_tri {a b : Str} (h1 : ¬ sLt a b) (h2 : ¬ sLt b a) : a = b := str_ext (List.le_antisymm (List.not_lt.mp h2) (List.not_lt.mp h1))
theorem sLt_asymm {a b : Str} (h : sLt a b) : ¬ sLt b a := fun z => sLt_irrefl _ (sLt_trans h z)
theorem sLe_iff {a b : Str} : sLe a b = true ↔ ¬ sLt b a := by unfold sLe; simp
theorem sLe_total (a b : Str) : (sLe a b || sLe b a) = true := by
  by_cases h : sLt b a
  · have := sLt_asymm h
    rw [sLe_iff.mpr this, Bool.or_true]
  · rw [sLe_iff.mpr h, Bool.true_or]
theorem sLe_trans (a b c : Str) (h1 : sLe a b = true) (h2 : sLe b c = true) : sLe a c = true := by
  rw [sLe_iff] at h1 h2 ⊢
  intro h
  by_cases q : sLt a b
  · exact h2 (sLt_trans h q)
  · have := sLt_tri q h1
    subst this
    exact h2 h
def sortS (l : List Str) : List Str := l.mergeSort sLe
def Asc (l : List Str) : Prop := l.Pairwise sLt
theorem sortS_perm (l : List Str) : (sortS l).Perm l := List.mergeSort_perm ..
theorem sortS_le (l : List Str) : (sortS l).Pairwise fun a b => sLe a b = true := List.pairwise_mergeSort sLe_trans sLe_total l
theorem asc_of {l : List Str} (h : l.Pairwise fun a b => sLe a b = true) (nd : l.Nodup) : Asc l := by
  induction l with
  | nil => exact List.Pairwise.nil
  | cons a l ih =>
    obtain ⟨h1, h2⟩ := List.pairwise_cons.mp h
    obtain ⟨n1, n2⟩ := List.nodup_cons.mp nd
    refine List.pairwise_cons.mpr ⟨fun b hb => ?_, ih h2 n2⟩
    have := sLe_iff.mp (h1 b hb)
    rcases Decidable.em (sLt a b) with q | q
    · exact q
    · exact absurd (sLt_tri q this) fun e => n1 (e ▸ hb)
theorem asc_sort {l : List Str} (nd : l.Nodup) : Asc (sortS l) := asc_of (sortS_le l) ((sortS_perm l).symm.nodup nd)
theorem Asc.le {l : List Str} (h : Asc l) : l.Pairwise fun a b => sLe a b = true := h.imp fun q => sLe_iff.mpr (sLt_asymm q)
theorem Asc.nd {l : List Str} (h : Asc l) : l.Nodup := h.imp fun q e => by subst e; exact sLt_irrefl _ q
theorem Asc.filter {l : List Str} (h : Asc l) (p : Str → Bool) : Asc (l.filter p) := List.Pairwise.filter p h
theorem leS_str (a b : Str) : leS (.str a) (.str b) = sLe a b := by
  show (!PySem.W.dataLt (.str b) (.str a)) = _
  rw [PySem.W.dataLt_str]; rfl
theorem sortT_str (l : List Str) : sortT (l.map .str) = (sortS l).map .str :=
  (List.map_mergeSort (f := T.str) (r := sLe) (s := leS) fun a _ b _ => (leS_str a b).symm).symm
theorem in_tup (L : List Str) (s : Str) : inT (.str s) (.tup (stsT L)) = some (.bl (decide (s ∈ L))) ∧ ninT (.str s) (.tup (stsT L)) = some (.bl (!decide (s ∈ L))) := by
  have f1 : ∀ L : List Str, flatTs (stsT L) = true := fun L => by
    induction L with
    | nil => rfl
    | cons a L ih => show (true && flatTs (stsT L)) = true; rw [ih]; rfl
  have f2 : ∀ L : List Str, anyF (.str s) (stsT L) = decide (s ∈ L) := fun L => by
    induction L with
    | nil => simp [stsT, anyF]
    | cons a L ih =>
      show ((a == s) || anyF (.str s) (stsT L)) = decide (s ∈ a :: L)
      rw [ih]
      by_cases e : a = s
      · subst e; simp
      · have e2 : ¬ s = a := fun z => e z.symm
        have e3 : (a == s) = false := by simpa using e
        simp [e2, e3]
  have e : inB (.str s) (.tup (stsT L)) = some (decide (s ∈ L)) := by
    simp [inB, flatT, flat?, f1, f2]
  unfold inT ninT
  rw [e]
  exact ⟨rfl, rfl⟩
end Mir
namespace Mir
open PySem PySem.Spec L2
abbrev Way : Type := Str × Str × Str
abbrev Bg : Type := Int × List Str
structure Wd where
  ps : List Str
  ws : List Way
  hs : List Str
  cr : List Bg
def wayT (w : Way) : T := .tup [.str w.1, .str w.2.1, .str w.2.2]
def bgT (c : Bg) : T := .tup [.int c.1, .tup (stsT c.2)]
def webT (W : Wd) : T := .tup [.tup (stsT W.ps), .tup (W.ws.map wayT)]
def wdT (W : Wd) : T := .tup [webT W, .tup (stsT W.hs), .tup (W.cr.map bgT)]
structure Lg (W : Wd) : Prop where
  nd : W.ps.Nodup
  p1 : 1 ≤ W.ps.length
  p10 : W.ps.length ≤ 10
  w14 : W.ws.length ≤ 14
  hl : W.hs.length = W.ws.length
  cl : W.cr.length = W.ps.length
  ends : ∀ w ∈ W.ws, w.2.1 ∈ W.ps ∧ w.2.2 ∈ W.ps ∧ w.2.1 ≠ w.2.2
  hd : ∀ p ∈ W.ws.zip W.hs, p.2 = p.1.2.1 ∨ p.2 = p.1.2.2
  c8 : ∀ c ∈ W.cr, 0 ≤ c.1 ∧ c.1 ≤ 17 ∧ c.2.length ≤ 17
  nps : ∀ s ∈ W.ps, NameL 8 (ls s)
  nws : ∀ w ∈ W.ws, NameL 8 (ls w.1)
  ncr : ∀ c ∈ W.cr, ∀ s ∈ c.2, NameL 8 (ls s)
def oth (w : Way) (h : Str) : Str := if w.2.1 = h then w.2.2 else w.2.1
def tails (W : Wd) : List Str := (W.ws.zip W.hs).map fun p => oth p.1 p.2
theorem e_eq_s {i j : Str} : eqT (.str i) (.str j) = some (.bl (decide (i = j))) := by
  show some (T.bl (decide (V.str i = V.str j))) = _
  congr 2
  by_cases h : i = j
  · subst h; simp
  · rw [decide_eq_false h, decide_eq_false fun z => h (by cases z; rfl)]
theorem e_ne_s {i j : Str} : neT (.str i) (.str j) = some (.bl (!decide (i = j))) := by
  show some (T.bl (!decide (V.str i = V.str j))) = _
  congr 2
  by_cases h : i = j
  · subst h; simp
  · rw [decide_eq_false h, decide_eq_false fun z => h (by cases z; rfl)]
theorem zipL_map {α β : Type} (f : α → T) (g : β → T) : ∀ (xs : List α) (ys : List β), zipL (xs.map f) (ys.map g) = (xs.zip ys).map fun p => .yt [f p.1, g p.2]
  | [], ys => by simp [zipL]
  | x :: xs, [] => by simp [zipL]
  | x :: xs, y :: ys => by
    show T.yt [f x, g y] :: zipL (xs.map f) (ys.map g) = _
    rw [zipL_map f g xs ys]; rfl
theorem noOwn_web {W : Wd} : noOwn (webT W) = true := rfl
theorem frz_web {W : Wd} : frz (webT W) = webT W := by unfold webT; exact e_frz_tup
theorem noOwn_way {w : Way} : noOwn (wayT w) = true := rfl
theorem noOwn_bg {c : Bg} : noOwn (bgT c) = true := rfl
theorem frz_wd {W : Wd} : frz (wdT W) = wdT W := by unfold wdT; exact e_frz_tup
theorem noLst_strs : ∀ l : List Str, noLsts (stsT l) = true
  | [] => rfl
  | s :: l => by
    show (noLst (.str s) && noLsts (stsT l)) = true
    rw [noLst_strs l]; rfl
theorem noLst_map {α : Type} {f : α → T} (h : ∀ a, noLst (f a) = true) : ∀ l : List α, noLsts (l.map f) = true
  | [] => rfl
  | a :: l => by
    show (noLst (f a) && noLsts (l.map f)) = true
    rw [h a, noLst_map h l]; rfl
theorem noLst_way (w : Way) : noLst (wayT w) = true := rfl
theorem noLst_bg (c : Bg) : noLst (bgT c) = true := by
  show (noLst (.int c.1) && (noLsts (stsT c.2) && true)) = true
  rw [noLst_strs]; rfl
theorem noLst_wd (W : Wd) : noLst (wdT W) = true := by
  show ((noLsts (stsT W.ps) && (noLsts (W.ws.map wayT) && true)) && (noLsts (stsT W.hs) && (noLsts (W.cr.map bgT) && true))) = true
  rw [noLst_strs, noLst_strs, noLst_map noLst_way, noLst_map noLst_bg]; rfl
theorem frzs_sts : ∀ L : List Str, frzs (stsT L) = stsT L
  | [] => by simp [stsT, frzs]
  | s :: L => by
    show frzs (.str s :: stsT L) = .str s :: stsT L
    rw [e_frzs1, frzs_sts L, e_frz_s]
end Mir
namespace Mir
open PySem PySem.Spec L2
def labels (W : Wd) : List Str := W.ws.map Prod.fst
def namesW (W : Wd) : List Str := (W.cr.map Prod.snd).flatten
def totW (W : Wd) : Int := (W.cr.map fun c => c.1 + (c.2.length : Int)).sum
structure Lk (W : Wd) : Prop where
  lg : Lg W
  aps : Asc W.ps
  alb : Asc (labels W)
  eo : ∀ w ∈ W.ws, sLt w.2.1 w.2.2
  nn : (namesW W).Nodup
  asn : ∀ c ∈ W.cr, Asc c.2
  tot : totW W ≤ 8
theorem sum_mem {l : List Bg} (f : Bg → Int) (h : ∀ c ∈ l, 0 ≤ f c) : ∀ c ∈ l, f c ≤ (l.map f).sum := by
  induction l with
  | nil => intro c hc; cases hc
  | cons a l ih =>
    have h2 := ih fun c hc => h c (List.mem_cons_of_mem _ hc)
    have ha := h a (List.mem_cons_self ..)
    have hs : 0 ≤ (l.map f).sum := by
      clear h2 ih ha
      induction l with
      | nil => simp
      | cons b l ih =>
        have hb := h b (by simp)
        have := ih fun c hc => h c (by rcases List.mem_cons.mp hc with q | q <;> simp [q])
        simp only [List.map_cons, List.sum_cons]; omega
    intro c hc
    simp only [List.map_cons, List.sum_cons]
    rcases List.mem_cons.mp hc with rfl | hc
    · omega
    · have := h2 c hc; omega
theorem Lk.c8 {W : Wd} (h : Lk W) : ∀ c ∈ W.cr, 0 ≤ c.1 ∧ c.1 ≤ 8 ∧ c.2.length ≤ 8 := fun c hc => by
  have h1 := sum_mem (fun c : Bg => c.1 + (c.2.length : Int)) (fun c hc => by have := h.lg.c8 c hc; omega) c hc
  have h2 := h.tot
  have h3 := h.lg.c8 c hc
  unfold totW at h2
  omega
def bgHas (n : Option Str) (c : Bg) : Prop := match n with
  | none => 0 < c.1
  | some s => s ∈ c.2
instance (n : Option Str) (c : Bg) : Decidable (bgHas n c) := by unfold bgHas; cases n <;> exact inferInstance
def AtW (W : Wd) (k : Nat) (w : Way) (x : Str) : Prop := W.ws[k]? = some w ∧ W.hs[k]? = some x
theorem AtW.ex {W : Wd} (h : Lg W) {k : Nat} (hk : k < W.ws.length) : ∃ w x, AtW W k w x := by
  have hk2 : k < W.hs.length := by rw [h.hl]; exact hk
  exact ⟨_, _, List.getElem?_eq_getElem hk, List.getElem?_eq_getElem hk2⟩
theorem AtW.zip {W : Wd} {k : Nat} {w : Way} {x : Str} (a : AtW W k w x) : (W.ws.zip W.hs)[k]? = some (w, x) := List.getElem?_zip_eq_some.mpr a
theorem AtW.hd {W : Wd} (h : Lg W) {k : Nat} {w : Way} {x : Str} (a : AtW W k w x) : x = w.2.1 ∨ x = w.2.2 := h.hd (w, x) (List.mem_of_getElem? a.zip)
theorem AtW.ends {W : Wd} (h : Lg W) {k : Nat} {w : Way} {x : Str} (a : AtW W k w x) : w.2.1 ∈ W.ps ∧ w.2.2 ∈ W.ps ∧ w.2.1 ≠ w.2.2 := h.ends w (List.mem_of_getElem? a.1)
theorem AtW.ne {W : Wd} (h : Lg W) {k : Nat} {w : Way} {x : Str} (a : AtW W k w x) : oth w x ≠ x := by
  have n := (a.ends h).2.2
  unfold oth
  rcases a.hd h with e | e
  · rw [if_pos e.symm, e]; exact n.symm
  · rw [if_neg (by rw [e]; exact n), e]; exact n
end Mir
namespace Mir
open PySem PySem.Spec L2
theorem at_map {α : Type} {f : α → T} {l : List α} {k : Nat} {a : α} (h : l[k]? = some a) : atI (l.map f) (k : Int) = some (f a) := by
  rw [atI_nat, List.getElem?_map, h]; rfl
def outs (W : Wd) (p : Str) : Nat := ((tails W).filter fun t => decide (t = p)).length
end Mir
namespace Mir
open PySem PySem.Spec L2
theorem noOwn_wd (W : Wd) : noOwn (wdT W) = true := rfl
theorem e_wd0 {W : Wd} : ixT (wdT W) (.int 0) = some (webT W) := by
  show ixT (.tup [webT W, .tup (stsT W.hs), .tup (W.cr.map bgT)]) _ = _
  exact e_ix_tup.trans e_at0
theorem e_wd1 {W : Wd} : ixT (wdT W) (.int 1) = some (.tup (stsT W.hs)) := by
  show ixT (.tup [webT W, .tup (stsT W.hs), .tup (W.cr.map bgT)]) _ = _
  exact e_ix_tup.trans e_at1
theorem e_wd2 {W : Wd} : ixT (wdT W) (.int 2) = some (.tup (W.cr.map bgT)) := by
  show ixT (.tup [webT W, .tup (stsT W.hs), .tup (W.cr.map bgT)]) _ = _
  exact e_ix_tup.trans e_at2
theorem e_web0 {W : Wd} : ixT (webT W) (.int 0) = some (.tup (stsT W.ps)) := by
  show ixT (.tup [.tup (stsT W.ps), .tup (W.ws.map wayT)]) _ = _
  exact e_ix_tup.trans e_at0
theorem e_web1 {W : Wd} : ixT (webT W) (.int 1) = some (.tup (W.ws.map wayT)) := by
  show ixT (.tup [.tup (stsT W.ps), .tup (W.ws.map wayT)]) _ = _
  exact e_ix_tup.trans e_at1
theorem e_way0 {w : Way} : ixT (wayT w) (.int 0) = some (.str w.1) := by
  show ixT (.tup [.str w.1, .str w.2.1, .str w.2.2]) _ = _
  exact e_ix_tup.trans e_at0
theorem e_way1 {w : Way} : ixT (wayT w) (.int 1) = some (.str w.2.1) := by
  show ixT (.tup [.str w.1, .str w.2.1, .str w.2.2]) _ = _
  exact e_ix_tup.trans e_at1
theorem e_way2 {w : Way} : ixT (wayT w) (.int 2) = some (.str w.2.2) := by
  show ixT (.tup [.str w.1, .str w.2.1, .str w.2.2]) _ = _
  exact e_ix_tup.trans e_at2
theorem e_bg0 {c : Bg} : ixT (bgT c) (.int 0) = some (.int c.1) := by
  show ixT (.tup [.int c.1, .tup (stsT c.2)]) _ = _
  exact e_ix_tup.trans e_at0
theorem e_bg1 {c : Bg} : ixT (bgT c) (.int 1) = some (.tup (stsT c.2)) := by
  show ixT (.tup [.int c.1, .tup (stsT c.2)]) _ = _
  exact e_ix_tup.trans e_at1
theorem frz_way {w : Way} : frz (wayT w) = wayT w := by unfold wayT; exact e_frz_tup
theorem frz_bg {w : Bg} : frz (bgT w) = bgT w := by unfold bgT; exact e_frz_tup
theorem e_lisT {ts : List T} : lisT (.tup ts) = some (.own ts) := rfl
theorem e_lisL {ts : List T} : lisT (.lst ts) = some (.own ts) := rfl
abbrev Deed : Type := Str × Option Str
def optT : Option Str → T
  | none => .non
  | some s => .str s
def deedT (d : Deed) : T := .tup [.str d.1, optT d.2]
theorem e_gTp_deed {d : Deed} {f : List T → Env → Option Env} {e : Env} : gTp 2 f (deedT d) e = f [.str d.1, optT d.2] e := rfl
theorem frz_opt {n : Option Str} : frz (optT n) = optT n := by cases n <;> simp [optT, frz]
theorem noOwn_opt {n : Option Str} : noOwn (optT n) = true := by cases n <;> rfl
theorem noLst_opt {n : Option Str} : noLst (optT n) = true := by cases n <;> rfl
theorem noOwn_deed (d : Deed) : noOwn (deedT d) = true := rfl
theorem frz_deed (d : Deed) : frz (deedT d) = deedT d := by unfold deedT; exact e_frz_tup
theorem noLst_deed (d : Deed) : noLst (deedT d) = true := by
  obtain ⟨s, n⟩ := d
  cases n <;> rfl
theorem e_deed0 {d : Deed} : ixT (deedT d) (.int 0) = some (.str d.1) := by
  show ixT (.tup [.str d.1, optT d.2]) _ = _
  exact e_ix_tup.trans e_at0
theorem e_deed1 {d : Deed} : ixT (deedT d) (.int 1) = some (optT d.2) := by
  show ixT (.tup [.str d.1, optT d.2]) _ = _
  exact e_ix_tup.trans e_at1
theorem z_wh {ws : List Way} {l : List Str} : zipL (ws.map wayT) (stsT l) = (ws.zip l).map fun p => .yt [wayT p.1, .str p.2] := zipL_map _ _ _ _
theorem z_pc {ps : List Str} {cr : List Bg} : zipL (stsT ps) (cr.map bgT) = (ps.zip cr).map fun p => .yt [.str p.1, bgT p.2] := zipL_map _ _ _ _
theorem e_gTp_wd {W : Wd} {f : List T → Env → Option Env} {e : Env} : gTp 3 f (wdT W) e = f [webT W, .tup (stsT W.hs), .tup (W.cr.map bgT)] e := rfl
theorem e_gTp_web {W : Wd} {f : List T → Env → Option Env} {e : Env} : gTp 2 f (webT W) e = f [.tup (stsT W.ps), .tup (W.ws.map wayT)] e := rfl
theorem e_gTp_bg {c : Bg} {f : List T → Env → Option Env} {e : Env} : gTp 2 f (bgT c) e = f [.int c.1, .tup (stsT c.2)] e := rfl
theorem e_gTp_way {w : Way} {f : List T → Env → Option Env} {e : Env} : gTp 3 f (wayT w) e = f [.str w.1, .str w.2.1, .str w.2.2] e := rfl
theorem fold_bg {i : Int} {l : List Str} : T.tup [.int i, .tup (stsT l)] = bgT (i, l) := rfl
theorem e_its_tup {ts : List T} : itsT (.tup ts) = some ts := rfl
theorem e_its_lst {ts : List T} : itsT (.lst ts) = some ts := rfl
def wdAll := And.intro @frz_opt <| And.intro @noOwn_opt <| And.intro @noLst_opt <| And.intro @frz_deed <| And.intro @noOwn_deed <| And.intro @noLst_deed <| And.intro @e_deed0 <| And.intro @e_deed1 <| And.intro @z_wh <| And.intro @z_pc <| And.intro @e_gTp_wd <| And.intro @e_gTp_web <| And.intro @e_gTp_bg <| And.intro @e_gTp_way <| And.intro @e_gTp_deed <| And.intro @fold_bg <| And.intro @fold_sts <| And.intro @e_its_tup <| And.intro @e_its_lst <| And.intro @tup_sts <| And.intro @list_sts <| And.intro @flat_sts <| And.intro @its_sts <| And.intro @sts_app1 <| And.intro @e_wd0 <| And.intro @e_wd1 <| And.intro @e_wd2 <| And.intro @e_web0 <| And.intro @e_web1 <| And.intro @e_way0 <| And.intro @e_way1 <| And.intro @e_way2 <| And.intro @e_bg0 <| And.intro @e_bg1 <| And.intro @e_lisT <| And.intro @e_lisL <| And.intro @frz_web <| And.intro @noOwn_web <| And.intro @frz_way <| And.intro @noOwn_way <| And.intro @frz_bg <| And.intro @noOwn_bg <| And.intro @sts_len <| And.intro @frzs_sts <| And.intro @noLst_strs <| And.intro (noLst_map noLst_way) <| And.intro (noLst_map noLst_bg) <| And.intro @noLst_wd <| And.intro @noOwn_wd <| And.intro @frz_wd <| True.intro
theorem big1000 : (1000 : Nat) ≤ sizeLine := by decide
theorem at_strs {l : List Str} {k : Nat} {s : Str} (h : l[k]? = some s) : atI (stsT l) (k : Int) = some (.str s) := at_map (f := T.str) h
theorem in_own (L : List Str) (s : Str) : inT (.str s) (.own (stsT L)) = some (.bl (decide (s ∈ L))) ∧ ninT (.str s) (.own (stsT L)) = some (.bl (!decide (s ∈ L))) := by
  have a := in_tup L s
  have e : inB (.str s) (.own (stsT L)) = inB (.str s) (.tup (stsT L)) := by simp [inB, flatT, flat?, noOwn_sts]
  unfold inT ninT at a ⊢
  rw [e]; exact a
end Mir
namespace Mir
open PySem PySem.Spec L2
theorem forR {i n : Nat} {b : S} {D : OD} {e : Env} (I : Nat → Env → Prop) (h0 : I 0 e) (step : ∀ k : Nat, k < n → ∀ e, I k e → SatO (b (e.set i (some (.int (k : Nat))))) ⟨I (k + 1), D.rt, D.nx, I (k + 1), D.ex⟩) (done : ∀ e, I n e → D.nx e) :
    SatO (forL (gNm i) b ((List.range n).map fun k => T.int (0 + (k : Nat))) e) D := by
  refine forL_inv (fun rest e => ∃ k : Nat, k ≤ n ∧ rest = ((List.range' k (n - k)).map fun j : Nat => T.int (0 + (j : Nat))) ∧ I k e) ?_ ?_ _ _ ⟨0, Nat.zero_le _, by rw [List.range_eq_range']; rfl, h0⟩
  · rintro t ts e ⟨k, hk, e1, hi⟩
    have lt : k < n := by
      rcases Nat.lt_or_ge k n with q | q
      · exact q
      · rw [show n - k = 0 by omega] at e1; cases e1
    rw [show n - k = (n - (k + 1)) + 1 by omega, List.range'_succ, List.map_cons] at e1
    injection e1 with e1 e2
    subst e1 e2
    rw [Int.zero_add]
    show SatO (b (e.set i (some (.int (k : Nat))))) _
    exact satO_mono (step k lt e hi) (fun e q => ⟨k + 1, by omega, rfl, q⟩) (fun _ _ q => q) (fun _ q => q) (fun e q => ⟨k + 1, by omega, rfl, q⟩) fun _ _ q => q
  · rintro e ⟨k, hk, e1, hi⟩
    have ek : k = n := by
      rcases Nat.lt_or_ge k n with q | q
      · rw [show n - k = (n - (k + 1)) + 1 by omega, List.range'_succ, List.map_cons] at e1; cases e1
      · omega
    subst ek
    exact done e hi
end Mir
namespace Mir
open PySem PySem.Spec L2
end Mir
namespace Mir
open PySem PySem.Spec L2
mutual
def szT : T → Nat
  | .tup ts => 1 + szTs ts
  | .lst ts => 1 + szTs ts
  | _ => 1
def szTs : List T → Nat
  | [] => 0
  | t :: ts => szT t + szTs ts
end
mutual
def smT : T → T → Prop
  | .non, u => u = .non
  | .bl a, u => u = .bl a
  | .int i, u => u = .int i
  | .str s, u => u = .str s
  | .tup ts, u => ∃ us, u = .tup us ∧ smTs ts us
  | .lst ts, u => ∃ us, u = .lst us ∧ smTs ts us
  | _, _ => False
def smTs : List T → List T → Prop
  | [], us => us = []
  | t :: ts, us => ∃ u r, us = u :: r ∧ smT t u ∧ smTs ts r
end
theorem smTs_len : ∀ {ts us : List T}, smTs ts us → us.length = ts.length
  | [], us, h => by unfold smTs at h; rw [h]
  | t :: ts, us, h => by
    unfold smTs at h
    obtain ⟨u, r, rfl, _, h2⟩ := h
    simp [smTs_len h2]
theorem smTs_at : ∀ {ts us : List T} {k : Nat}, smTs ts us → k < ts.length → ∃ a b, ts[k]? = some a ∧ us[k]? = some b ∧ smT a b
  | [], us, k, _, hk => by simp at hk
  | t :: ts, us, 0, h, _ => by
    unfold smTs at h
    obtain ⟨u, r, rfl, h1, _⟩ := h
    exact ⟨t, u, rfl, rfl, h1⟩
  | t :: ts, us, k + 1, h, hk => by
    unfold smTs at h
    obtain ⟨u, r, rfl, _, h2⟩ := h
    obtain ⟨a, b, e1, e2, e3⟩ := smTs_at h2 (show k < ts.length by simpa using hk)
    exact ⟨a, b, by simpa using e1, by simpa using e2, e3⟩
theorem smT_no : ∀ {t u : T}, smT t u → noOwn t = true ∧ noOwn u = true
  | .non, _, h => by unfold smT at h; subst h; exact ⟨rfl, rfl⟩
  | .bl _, _, h => by unfold smT at h; subst h; exact ⟨rfl, rfl⟩
  | .int _, _, h => by unfold smT at h; subst h; exact ⟨rfl, rfl⟩
  | .str _, _, h => by unfold smT at h; subst h; exact ⟨rfl, rfl⟩
  | .tup _, _, h => by unfold smT at h; obtain ⟨us, rfl, _⟩ := h; exact ⟨rfl, rfl⟩
  | .lst _, _, h => by unfold smT at h; obtain ⟨us, rfl, _⟩ := h; exact ⟨rfl, rfl⟩
  | .own _, _, h => by unfold smT at h; exact h.elim
  | .rol _, _, h => by unfold smT at h; exact h.elim
  | .dct _, _, h => by unfold smT at h; exact h.elim
  | .odc _, _, h => by unfold smT at h; exact h.elim
theorem szTs_append : ∀ a b : List T, szTs (a ++ b) = szTs a + szTs b
  | [], b => by simp [szTs]
  | t :: a, b => by
    show szT t + szTs (a ++ b) = szT t + szTs a + szTs b
    rw [szTs_append a b]; omega
theorem szTs_at : ∀ {ts : List T} {k : Nat} {a : T}, ts[k]? = some a → szTs (ts.take (k + 1)) = szTs (ts.take k) + szT a
  | t :: ts, 0, a, h => by cases h; simp [szTs]
  | t :: ts, k + 1, a, h => by
    show szT t + szTs (ts.take (k + 1)) = szT t + szTs (ts.take k) + szT a
    rw [szTs_at (ts := ts) (k := k) (a := a) (by simpa using h)]; omega
  | [], k, a, h => by simp at h
theorem szT_pos : ∀ t : T, 1 ≤ szT t
  | .tup _ => by unfold szT; omega
  | .lst _ => by unfold szT; omega
  | .non => by simp [szT]
  | .bl _ => by simp [szT]
  | .int _ => by simp [szT]
  | .str _ => by simp [szT]
  | .own _ => by simp [szT]
  | .rol _ => by simp [szT]
  | .dct _ => by simp [szT]
  | .odc _ => by simp [szT]
  | .yt _ => by simp [szT]
  | .otp _ => by simp [szT]
theorem szTs_len : ∀ ts : List T, ts.length ≤ szTs ts
  | [] => by simp
  | t :: ts => by
    show ts.length + 1 ≤ szT t + szTs ts
    have := szTs_len ts
    have := szT_pos t
    omega
def Prs (l : List T) (n : Nat) : Prop := ∃ ps : List (T × T), l = ps.map (fun p => .tup [p.1, p.2]) ∧ (∀ p ∈ ps, smT p.1 p.2) ∧ (ps.map fun p => szT p.1).sum ≤ n
theorem Prs.len {l : List T} {n : Nat} (h : Prs l n) : l.length ≤ n := by
  obtain ⟨ps, rfl, h1, hs⟩ := h
  clear h1
  rw [List.length_map]
  refine Nat.le_trans ?_ hs
  clear hs
  induction ps with
  | nil => simp
  | cons p ps ih =>
    rw [List.map_cons, List.sum_cons, List.length_cons]
    have := szT_pos p.1
    omega
theorem Prs.weak {l : List T} {n m : Nat} (h : Prs l n) (hm : n ≤ m) : Prs l m := by
  obtain ⟨ps, h1, h2, h3⟩ := h
  exact ⟨ps, h1, h2, Nat.le_trans h3 hm⟩
theorem Prs.snoc {l : List T} {n m : Nat} {a b : T} (h : Prs l n) (s : smT a b) (hm : n + szT a ≤ m) : Prs (l ++ [.tup [a, b]]) m := by
  obtain ⟨ps, rfl, h1, h2⟩ := h
  refine ⟨ps ++ [(a, b)], by simp, fun p hp => ?_, ?_⟩
  · rcases List.mem_append.mp hp with q | q
    · exact h1 p q
    · rw [List.mem_singleton.mp q]; exact s
  · rw [List.map_append, List.sum_append]
    simp
    omega
theorem Prs.pop {l : List T} {n : Nat} (h : Prs l n) (hl : l ≠ []) : ∃ a b l', l[l.length - 1]? = some (.tup [a, b]) ∧ l.dropLast = l' ∧ smT a b ∧ szT a ≤ n ∧ Prs l' (n - szT a) := by
  obtain ⟨ps, rfl, h1, h2⟩ := h
  obtain ⟨qs, p, rfl⟩ : ∃ qs p, ps = qs ++ [p] := by
    rcases List.eq_nil_or_concat ps with rfl | ⟨qs, p, e⟩
    · exact absurd rfl hl
    · exact ⟨qs, p, by simpa using e⟩
  rw [List.map_append, List.sum_append] at h2
  simp at h2
  refine ⟨p.1, p.2, qs.map fun p => .tup [p.1, p.2], by simp, by simp, h1 p (by simp), by omega, qs, rfl, fun q hq => h1 q (by simp [hq]), by omega⟩
theorem e_ne_ss {s : Str} : neT (.str s) (.str s) = some (.bl false) := by
  unfold neT eqB
  simp [sv, scal]
theorem e_isNon_int {i : Int} : isNonT (.int i) = false := rfl
theorem e_isNon_non : isNonT .non = true := rfl
theorem e_isBl_int {i : Int} {b : Bool} : isBlT (.int i) b = false := rfl
theorem same_ok {t u : T} (h : smT t u) (hz : szT t ≤ 200000) : SatF (m__law_same [t, u]) (fun r os => r = .bl true ∧ os = []) X0 := by
  obtain ⟨n1, n2⟩ := smT_no h
  have bigL : (400000 : Nat) ≤ sizeLine := by decide
  unfold m__law_same b__law_same
  have hN0 := big_eq 200000
  generalize big 200000 = N at hN0
  simp (maxSteps := 4000000) only [wAll, List.map_cons, List.map_nil, List.length_cons, List.length_nil, List.append_nil, List.nil_append, List.cons_append, List.replicate_zero, List.replicate_succ, Nat.reduceAdd, Nat.reduceSub, List.getElem?_cons_zero, List.getElem?_cons_succ, Option.join_some, Option.join_none, List.set_cons_zero, List.set_cons_succ, decide_eq_true_eq, Bool.not_eq_true, Bool.not_eq_false, if_true, if_false, Bool.false_eq_true, eq_self, true_and, and_true, reduceCtorEq, Bool.not_true, Bool.not_false, n1, n2]
  rw [VR.frz_id n1, VR.frz_id n2]
  refine ⟨by decide, by decide, ?_⟩
  simp (maxSteps := 4000000) only [wAll, List.map_cons, List.map_nil, List.length_cons, List.length_nil, List.append_nil, List.nil_append, List.cons_append, List.replicate_zero, List.replicate_succ, Nat.reduceAdd, Nat.reduceSub, List.getElem?_cons_zero, List.getElem?_cons_succ, Option.join_some, Option.join_none, List.set_cons_zero, List.set_cons_succ, decide_eq_true_eq, Bool.not_eq_true, Bool.not_eq_false, if_true, if_false, Bool.false_eq_true, eq_self, true_and, and_true, reduceCtorEq, Bool.not_true, Bool.not_false, later]
  refine ⟨by (first | omega | (unfold RngOk; omega) | (unfold MulOk; omega) | (simp; omega) | (simp <;> omega)), ?_⟩
  refine forL_inv (fun its e => ∃ l o3 o4 o5 o6 o7, e = [some t, some u, some (.own l), o3, o4, o5, o6, o7] ∧ Prs l its.length ∧ its.length ≤ 200000) ?_ ?_ _ _ ⟨[.tup [t, u]], none, none, none, none, none, rfl, ⟨[(t, u)], by simp, by simpa using h, by simp; omega⟩, by simp; omega⟩
  · rintro x its e ⟨l, o3, o4, o5, o6, o7, rfl, hp, hcap⟩
    have hcap' : its.length + 1 ≤ 200000 := hcap
    have elc : (x :: its).length = its.length + 1 := rfl
    have hl := hp.len
    simp (maxSteps := 4000000) only [wAll, List.map_cons, List.map_nil, List.length_cons, List.length_nil, List.append_nil, List.nil_append, List.cons_append, List.replicate_zero, List.replicate_succ, Nat.reduceAdd, Nat.reduceSub, List.getElem?_cons_zero, List.getElem?_cons_succ, Option.join_some, Option.join_none, List.set_cons_zero, List.set_cons_succ, decide_eq_true_eq, Bool.not_eq_true, Bool.not_eq_false, if_true, if_false, Bool.false_eq_true, eq_self, true_and, and_true, reduceCtorEq, Bool.not_true, Bool.not_false]
    refine ite_in (fun h0 => trivial) fun h0 => ?_
    have hne : l ≠ [] := fun z => h0 (by rw [z]; rfl)
    obtain ⟨a, b, l', e1, e2, sm, sz, hp'⟩ := hp.pop hne
    obtain ⟨a1, a2⟩ := smT_no sm
    have hp2 : Prs l' (its.length + 1 - szT a) := hp'
    have fin : ∀ {m : Nat}, Prs l' m → m ≤ its.length → ∀ o3 o4 o5 o6 o7, ∃ l p3 p4 p5 p6 p7, [some t, some u, some (.own l'), o3, o4, o5, o6, o7] = [some t, some u, some (.own l), p3, p4, p5, p6, p7] ∧ Prs l its.length ∧ its.length ≤ 200000 := fun {m} q hm o3 o4 o5 o6 o7 => ⟨_, _, _, _, _, _, rfl, q.weak hm, by omega⟩
    have sp := szT_pos a
    have row : ∀ {ts us : List T}, smTs ts us → szTs ts ≤ 200000 → (a = .tup ts ∧ b = .tup us) ∨ (a = .lst ts ∧ b = .lst us) → Prs l' (its.length - szTs ts) → szTs ts ≤ its.length → ∀ o3 o4,
        SatO (forL (gNm 7) (exp (appendE 2 (tupE (consA (settle (bin ixT (var 5) (var 7))) (consA (settle (bin ixT (var 6) (var 7))) (nilA)))))) ((List.range ((ts.length : Int)).toNat).map fun k => T.int (0 + (k : Nat))) [some t, some u, some (.own l'), o3, o4, some a, some b, o7]) ⟨fun e => ∃ l p3 p4 p5 p6 p7, e = [some t, some u, some (.own l), p3, p4, p5, p6, p7] ∧ Prs l its.length ∧ its.length ≤ 200000, fun _ _ => False, fun _ => False, fun _ => False, fun _ _ => False⟩ := fun {ts us} hs hsz hab hq hle o3 o4 => by
      have el := smTs_len hs
      have eu : ((ts.length : Int)).toNat = ts.length := by omega
      rw [eu, List.range_eq_range']
      refine forL_inv (fun js e => ∃ j l o7, js = (List.range' j js.length).map (fun k => T.int (0 + (k : Nat))) ∧ j + js.length = ts.length ∧ e = [some t, some u, some (.own l), o3, o4, some a, some b, o7] ∧ Prs l (its.length - szTs ts + szTs (ts.take j))) ?_ ?_ _ _ ⟨0, l', o7, by simp, by simp, rfl, by simpa [szTs] using hq⟩
      · rintro x js e ⟨j, lc, p7, e1, e2, rfl, hpp⟩
        have e2' : j + (js.length + 1) = ts.length := e2
        rw [List.length_cons, List.range'_succ, List.map_cons] at e1
        injection e1 with e3 e4
        subst e3
        obtain ⟨c, d, c1, c2, c3⟩ := smTs_at hs (k := j) (by omega)
        obtain ⟨d1, d2⟩ := smT_no c3
        have i1 : ixT a (.int (0 + (j : Nat))) = some c := by
          rw [Int.zero_add]
          rcases hab with ⟨h1, _⟩ | ⟨h1, _⟩ <;> rw [h1]
          · rw [e_ix_tup, atI_nat]; exact c1
          · rw [e_ix_lst, atI_nat]; exact c1
        have i2 : ixT b (.int (0 + (j : Nat))) = some d := by
          rw [Int.zero_add]
          rcases hab with ⟨_, h1⟩ | ⟨_, h1⟩ <;> rw [h1]
          · rw [e_ix_tup, atI_nat]; exact c2
          · rw [e_ix_lst, atI_nat]; exact c2
        have ll := hpp.len
        have st := szTs_at c1
        have tk : szTs (ts.take (j + 1)) ≤ szTs ts := by
          have := szTs_append (ts.take (j + 1)) (ts.drop (j + 1))
          rw [List.take_append_drop] at this
          omega
        simp (maxSteps := 4000000) only [wAll, List.map_cons, List.map_nil, List.length_cons, List.length_nil, List.append_nil, List.nil_append, List.cons_append, List.replicate_zero, List.replicate_succ, Nat.reduceAdd, Nat.reduceSub, List.getElem?_cons_zero, List.getElem?_cons_succ, Option.join_some, Option.join_none, List.set_cons_zero, List.set_cons_succ, decide_eq_true_eq, Bool.not_eq_true, Bool.not_eq_false, if_true, if_false, Bool.false_eq_true, eq_self, true_and, and_true, reduceCtorEq, Bool.not_true, Bool.not_false, i1, i2, d1, d2]
        rw [VR.frz_id d1, VR.frz_id d2]
        refine ⟨by decide, by omega, j + 1, _, _, e4, by omega, rfl, hpp.snoc c3 (by omega)⟩
      · rintro e ⟨j, lc, p7, e1, e2, rfl, hpp⟩
        have e2' : j = ts.length := by simpa using e2
        subst e2'
        rw [List.take_length] at hpp
        exact ⟨_, _, _, _, _, _, rfl, hpp.weak (by omega), by omega⟩
    simp (maxSteps := 4000000) only [wAll, List.map_cons, List.map_nil, List.length_cons, List.length_nil, List.append_nil, List.nil_append, List.cons_append, List.replicate_zero, List.replicate_succ, Nat.reduceAdd, Nat.reduceSub, List.getElem?_cons_zero, List.getElem?_cons_succ, Option.join_some, Option.join_none, List.set_cons_zero, List.set_cons_succ, decide_eq_true_eq, Bool.not_eq_true, Bool.not_eq_false, if_true, if_false, Bool.false_eq_true, eq_self, true_and, and_true, reduceCtorEq, Bool.not_true, Bool.not_false, later]
    refine OptP.of e1 ?_
    simp (maxSteps := 4000000) only [wAll, List.map_cons, List.map_nil, List.length_cons, List.length_nil, List.append_nil, List.nil_append, List.cons_append, List.replicate_zero, List.replicate_succ, Nat.reduceAdd, Nat.reduceSub, List.getElem?_cons_zero, List.getElem?_cons_succ, Option.join_some, Option.join_none, List.set_cons_zero, List.set_cons_succ, decide_eq_true_eq, Bool.not_eq_true, Bool.not_eq_false, if_true, if_false, Bool.false_eq_true, eq_self, true_and, and_true, reduceCtorEq, Bool.not_true, Bool.not_false, later, e2, a1, a2]
    cases a with
    | non =>
      have eb : b = .non := by unfold smT at sm; exact sm
      subst eb
      simp (maxSteps := 4000000) only [wAll, List.map_cons, List.map_nil, List.length_cons, List.length_nil, List.append_nil, List.nil_append, List.cons_append, List.replicate_zero, List.replicate_succ, Nat.reduceAdd, Nat.reduceSub, List.getElem?_cons_zero, List.getElem?_cons_succ, Option.join_some, Option.join_none, List.set_cons_zero, List.set_cons_succ, decide_eq_true_eq, Bool.not_eq_true, Bool.not_eq_false, if_true, if_false, Bool.false_eq_true, eq_self, true_and, and_true, reduceCtorEq, Bool.not_true, Bool.not_false, e_isNon_non]
      exact fin hp2 (by omega) _ _ _ _ _
    | bl c =>
      have eb : b = .bl c := by unfold smT at sm; exact sm
      subst eb
      simp (maxSteps := 4000000) only [wAll, List.map_cons, List.map_nil, List.length_cons, List.length_nil, List.append_nil, List.nil_append, List.cons_append, List.replicate_zero, List.replicate_succ, Nat.reduceAdd, Nat.reduceSub, List.getElem?_cons_zero, List.getElem?_cons_succ, Option.join_some, Option.join_none, List.set_cons_zero, List.set_cons_succ, decide_eq_true_eq, Bool.not_eq_true, Bool.not_eq_false, if_true, if_false, Bool.false_eq_true, eq_self, true_and, and_true, reduceCtorEq, Bool.not_true, Bool.not_false, e_isNon_b, e_isBl]
      cases c <;> (simp; exact ⟨hp2.weak (by omega), by omega⟩)
    | int i =>
      have eb : b = .int i := by unfold smT at sm; exact sm
      subst eb
      simp (maxSteps := 4000000) only [wAll, List.map_cons, List.map_nil, List.length_cons, List.length_nil, List.append_nil, List.nil_append, List.cons_append, List.replicate_zero, List.replicate_succ, Nat.reduceAdd, Nat.reduceSub, List.getElem?_cons_zero, List.getElem?_cons_succ, Option.join_some, Option.join_none, List.set_cons_zero, List.set_cons_succ, decide_eq_true_eq, Bool.not_eq_true, Bool.not_eq_false, if_true, if_false, Bool.false_eq_true, eq_self, true_and, and_true, reduceCtorEq, Bool.not_true, Bool.not_false, e_isNon_int, e_isBl_int]
      simp
      exact ⟨hp2.weak (by omega), by omega⟩
    | str s =>
      have eb : b = .str s := by unfold smT at sm; exact sm
      subst eb
      simp (maxSteps := 4000000) only [wAll, List.map_cons, List.map_nil, List.length_cons, List.length_nil, List.append_nil, List.nil_append, List.cons_append, List.replicate_zero, List.replicate_succ, Nat.reduceAdd, Nat.reduceSub, List.getElem?_cons_zero, List.getElem?_cons_succ, Option.join_some, Option.join_none, List.set_cons_zero, List.set_cons_succ, decide_eq_true_eq, Bool.not_eq_true, Bool.not_eq_false, if_true, if_false, Bool.false_eq_true, eq_self, true_and, and_true, reduceCtorEq, Bool.not_true, Bool.not_false, e_ne_ss]
      exact fin hp2 (by omega) _ _ _ _ _
    | tup ts =>
      obtain ⟨us, rfl, sms⟩ : ∃ us, b = .tup us ∧ smTs ts us := by unfold smT at sm; exact sm
      have el := smTs_len sms
      have zt : szT (.tup ts) = 1 + szTs ts := by simp [szT]
      rw [zt] at sz hp2
      have lts := szTs_len ts
      simp (maxSteps := 4000000) only [wAll, List.map_cons, List.map_nil, List.length_cons, List.length_nil, List.append_nil, List.nil_append, List.cons_append, List.replicate_zero, List.replicate_succ, Nat.reduceAdd, Nat.reduceSub, List.getElem?_cons_zero, List.getElem?_cons_succ, Option.join_some, Option.join_none, List.set_cons_zero, List.set_cons_succ, decide_eq_true_eq, Bool.not_eq_true, Bool.not_eq_false, if_true, if_false, Bool.false_eq_true, eq_self, true_and, and_true, reduceCtorEq, Bool.not_true, Bool.not_false, later, el, decide_true]
      refine ⟨by (first | omega | (unfold RngOk; omega) | (unfold MulOk; omega) | (simp; omega) | (simp <;> omega)), satO_on (row sms (by omega) (.inl ⟨rfl, rfl⟩) (hp2.weak (by omega)) (by omega) _ _) fun e he => he⟩
    | lst ts =>
      obtain ⟨us, rfl, sms⟩ : ∃ us, b = .lst us ∧ smTs ts us := by unfold smT at sm; exact sm
      have el := smTs_len sms
      have zt : szT (.lst ts) = 1 + szTs ts := by simp [szT]
      rw [zt] at sz hp2
      have lts := szTs_len ts
      simp (maxSteps := 4000000) only [wAll, List.map_cons, List.map_nil, List.length_cons, List.length_nil, List.append_nil, List.nil_append, List.cons_append, List.replicate_zero, List.replicate_succ, Nat.reduceAdd, Nat.reduceSub, List.getElem?_cons_zero, List.getElem?_cons_succ, Option.join_some, Option.join_none, List.set_cons_zero, List.set_cons_succ, decide_eq_true_eq, Bool.not_eq_true, Bool.not_eq_false, if_true, if_false, Bool.false_eq_true, eq_self, true_and, and_true, reduceCtorEq, Bool.not_true, Bool.not_false, later, el, decide_true]
      refine ⟨by (first | omega | (unfold RngOk; omega) | (unfold MulOk; omega) | (simp; omega) | (simp <;> omega)), satO_on (row sms (by omega) (.inr ⟨rfl, rfl⟩) (hp2.weak (by omega)) (by omega) _ _) fun e he => he⟩
    | own ts => unfold smT at sm; exact sm.elim
    | rol ts => unfold smT at sm; exact sm.elim
    | dct ts => unfold smT at sm; exact sm.elim
    | odc ts => unfold smT at sm; exact sm.elim
    | yt ts => unfold smT at sm; exact sm.elim
    | otp ts => unfold smT at sm; exact sm.elim
  · rintro e ⟨l, o3, o4, o5, o6, o7, rfl, hp, _⟩
    have e0 : l = [] := by
      have := hp.len
      simpa using this
    subst e0
    simp (maxSteps := 4000000) only [wAll, List.map_cons, List.map_nil, List.length_cons, List.length_nil, List.append_nil, List.nil_append, List.cons_append, List.replicate_zero, List.replicate_succ, Nat.reduceAdd, Nat.reduceSub, List.getElem?_cons_zero, List.getElem?_cons_succ, Option.join_some, Option.join_none, List.set_cons_zero, List.set_cons_succ, decide_eq_true_eq, Bool.not_eq_true, Bool.not_eq_false, if_true, if_false, Bool.false_eq_true, eq_self, true_and, and_true, reduceCtorEq, Bool.not_true, Bool.not_false, later]
    trivial
end Mir
namespace Mir
open PySem PySem.Spec L2
end Mir
namespace Mir
open PySem PySem.Spec L2
mutual
def plT : T → Bool
  | .non => true
  | .bl _ => true
  | .int _ => true
  | .str _ => true
  | .tup ts => plTs ts
  | .lst ts => plTs ts
  | _ => false
def plTs : List T → Bool
  | [] => true
  | t :: ts => plT t && plTs ts
end
mutual
theorem smT_self : ∀ t : T, plT t = true → smT t t
  | .non, _ => by unfold smT; rfl
  | .bl _, _ => by unfold smT; rfl
  | .int _, _ => by unfold smT; rfl
  | .str _, _ => by unfold smT; rfl
  | .tup ts, h => by
    unfold smT
    unfold plT at h
    exact ⟨ts, rfl, smTs_self ts h⟩
  | .lst ts, h => by
    unfold smT
    unfold plT at h
    exact ⟨ts, rfl, smTs_self ts h⟩
  | .own _, h => by simp [plT] at h
  | .rol _, h => by simp [plT] at h
  | .dct _, h => by simp [plT] at h
  | .odc _, h => by simp [plT] at h
  | .yt _, h => by simp [plT] at h
  | .otp _, h => by simp [plT] at h
theorem smTs_self : ∀ ts : List T, plTs ts = true → smTs ts ts
  | [], _ => by unfold smTs; rfl
  | t :: ts, h => by
    unfold smTs
    unfold plTs at h
    obtain ⟨h1, h2⟩ := Bool.and_eq_true_iff.mp h
    exact ⟨t, ts, rfl, smT_self t h1, smTs_self ts h2⟩
end
theorem rep_in {w d : Nat} {t : T} {Q : T → Prop} (h : FinT w d t) (hd : d ≤ 64) (hw : w ≤ sizeLine) (q : Q (.str (toPy t).shown)) : OptP (repT t) Q := by
  unfold repT
  rw [if_pos ⟨h.sh, h.lay, Nat.le_trans h.dp hd, Nat.le_trans h.len hw⟩]
  exact q
end Mir
namespace Mir
open PySem PySem.Spec L2
theorem pigeon : ∀ (l tk : List Str), l.Nodup → (∀ x ∈ l, x ∈ tk) → l.length ≤ tk.length
  | [], tk, _, _ => Nat.zero_le _
  | a :: l, tk, nd, h => by
    obtain ⟨n1, n2⟩ := List.nodup_cons.mp nd
    have ha := h a (List.mem_cons_self ..)
    have := pigeon l (tk.erase a) n2 fun x hx => by
      have hx2 := h x (List.mem_cons_of_mem _ hx)
      exact (List.mem_erase_of_ne (fun z => n1 (by rw [← z]; exact hx))).mpr hx2
    have e := List.length_erase_of_mem ha
    have hp : 0 < tk.length := List.length_pos_of_mem ha
    rw [List.length_cons]
    omega
def sig36 : List Nat := ls (Str.ofString "abcdefghijklmnopqrstuvwxyz0123456789")
theorem sig_len : sig36.length = 36 := by decide +kernel
theorem sig_nd : sig36.Nodup := by decide +kernel
theorem sig_sg : ∀ c ∈ sig36, Sg c := by decide +kernel
def sgn (n : Nat) : Nat := sig36.getD (n % 36) 0
theorem sgn_at (n : Nat) : sig36[n % 36]? = some (sgn n) := by
  have h : n % 36 < sig36.length := by rw [sig_len]; omega
  unfold sgn
  rw [List.getD_eq_getElem?_getD, List.getElem?_eq_getElem h]; rfl
theorem sgn_inj {m n : Nat} (h : sgn m = sgn n) : m % 36 = n % 36 := by
  have h1 := sgn_at m
  have h2 := sgn_at n
  rw [h] at h1
  have l1 : m % 36 < sig36.length := by rw [sig_len]; omega
  exact (List.getElem?_inj l1 sig_nd).mp (h1.trans h2.symm)
theorem sgn_sg (n : Nat) : Sg (sgn n) := sig_sg _ (List.mem_of_getElem? (sgn_at n))
theorem nodup_map {α β : Type} {f : α → β} : ∀ {l : List α}, l.Nodup → (∀ a ∈ l, ∀ b ∈ l, f a = f b → a = b) → (l.map f).Nodup
  | [], _, _ => List.nodup_nil
  | a :: l, nd, h => by
    obtain ⟨n1, n2⟩ := List.nodup_cons.mp nd
    rw [List.map_cons]
    refine List.nodup_cons.mpr ⟨fun z => ?_, nodup_map n2 fun b hb c hc => h b (List.mem_cons_of_mem _ hb) c (List.mem_cons_of_mem _ hc)⟩
    obtain ⟨b, hb, e⟩ := List.mem_map.mp z
    exact n1 (by rw [h a (List.mem_cons_self ..) b (List.mem_cons_of_mem _ hb) e.symm]; exact hb)
theorem ix36 {n : Nat} {k : Int} {Q : T → Prop} (hk : k = ((n % 36 : Nat) : Int)) (q : Q (.str ⟨#[sgn n]⟩)) : OptP (ixT (.str (Str.ofString "abcdefghijklmnopqrstuvwxyz0123456789")) (.int k)) Q := by
  subst hk
  show OptP (if (Str.ofString "abcdefghijklmnopqrstuvwxyz0123456789").length ≤ sizeLine then (atI sig36 ((n % 36 : Nat) : Int)).map fun c => T.str ⟨#[c]⟩ else none) Q
  rw [if_pos (by rw [ls_len]; show sig36.length ≤ _; rw [sig_len]; decide)]
  have e : atI sig36 ((n % 36 : Nat) : Int) = some (sgn n) := by
    have h : n % 36 < sig36.length := by rw [sig_len]; omega
    unfold atI ixN
    rw [if_pos (by omega), if_pos (by omega), Int.toNat_natCast]
    exact sgn_at n
  rw [e]
  exact q
def cnd (st : Str) (k : Nat) : Str := st ++ ⟨#[sgn (k / 36)]⟩ ++ ⟨#[sgn k]⟩
theorem ls_cnd (st : Str) (k : Nat) : ls (cnd st k) = ls st ++ [sgn (k / 36), sgn k] := by
  unfold cnd
  rw [ls_append, ls_append]
  show ls st ++ [sgn (k / 36)] ++ [sgn k] = _
  rw [List.append_assoc]; rfl
theorem cnd_inj {st : Str} {j k : Nat} (hj : j < 1296) (hk : k < 1296) (h : cnd st j = cnd st k) : j = k := by
  have e := congrArg ls h
  rw [ls_cnd, ls_cnd] at e
  have e := List.append_cancel_left e
  injection e with e1 e2
  injection e2 with e2 _
  have a1 := sgn_inj e1
  have a2 := sgn_inj e2
  omega
theorem nameL_cut {l : List Nat} (h : NameL 8 l) : NameL 6 (l.take 6) := by
  obtain ⟨a, r, rfl, h1, h2, h3⟩ := h
  refine ⟨a, r.take 5, rfl, ?_, h2, fun c hc => h3 c (List.mem_of_mem_take hc)⟩
  rw [List.length_take]; omega
theorem cut6 {z : Str} : ls (cutS z none (some 6)) = (ls z).take 6 := by
  rw [ls_cut]
  have e : HT.sIx (ls z).length (ls z).length (some 6) = min 6 (ls z).length := by
    show (if (6 : Int) < 0 then (6 + ((ls z).length : Int)).toNat else min (6 : Int).toNat (ls z).length) = _
    rw [if_neg (by omega)]; rfl
  rw [e]
  show List.take (min 6 (ls z).length - 0) (List.drop 0 _) = _
  rw [List.drop_zero, Nat.sub_zero]
  by_cases c : 6 ≤ (ls z).length
  · rw [Nat.min_eq_left c]
  · rw [Nat.min_eq_right (by omega), List.take_length, List.take_of_length_le (by omega)]
def RNew (tk : List Str) : T → Prop := fun t => ∃ z, t = .str z ∧ NameL 8 (ls z) ∧ z ∉ tk
theorem RNew.nl {tk : List Str} {t : T} {p : Prop} (h : RNew tk t) : noLst t = true ∨ p := by
  obtain ⟨z, rfl, _⟩ := h; exact .inl rfl
theorem in_lst (L : List Str) (s : Str) : ninT (.str s) (.lst (stsT L)) = some (.bl (!decide (s ∈ L))) := by
  have a := (in_tup L s).2
  have e : inB (.str s) (.lst (stsT L)) = inB (.str s) (.tup (stsT L)) := by simp [inB, flatT, flat?]
  unfold ninT at a ⊢
  rw [e]; exact a
theorem new_name_gen {s : T} {tk : List Str} (h : StOk s) (hl : tk.length ≤ 100) : SatF (m__law_new_name [s, .lst (stsT tk)]) (Gen (RNew tk)) X0 := by
  have big : (1000 : Nat) ≤ sizeLine := by decide
  have l36 : (ls (Str.ofString "abcdefghijklmnopqrstuvwxyz0123456789")).length = 36 := sig_len
  unfold m__law_new_name b__law_new_name
  simp (maxSteps := 4000000) only [wAll, List.map_cons, List.map_nil, List.length_cons, List.length_nil, List.append_nil, List.nil_append, List.cons_append, List.replicate_zero, List.replicate_succ, Nat.reduceAdd, Nat.reduceSub, List.getElem?_cons_zero, List.getElem?_cons_succ, Option.join_some, Option.join_none, List.set_cons_zero, List.set_cons_succ, decide_eq_true_eq, Bool.not_eq_true, Bool.not_eq_false, if_true, if_false, Bool.false_eq_true, eq_self, true_and, and_true, reduceCtorEq, Bool.not_true, Bool.not_false]
  rw [later]
  simp (maxSteps := 4000000) only [wAll, List.map_cons, List.map_nil, List.length_cons, List.length_nil, List.append_nil, List.nil_append, List.cons_append, List.replicate_zero, List.replicate_succ, Nat.reduceAdd, Nat.reduceSub, List.getElem?_cons_zero, List.getElem?_cons_succ, Option.join_some, Option.join_none, List.set_cons_zero, List.set_cons_succ, decide_eq_true_eq, Bool.not_eq_true, Bool.not_eq_false, if_true, if_false, Bool.false_eq_true, eq_self, true_and, and_true, reduceCtorEq, Bool.not_true, Bool.not_false]
  refine gen_call (name_gen h) (fun _ q => q.nl) fun t s' hs => ?_
  rintro ⟨nm, rfl, hn⟩
  simp (maxSteps := 4000000) only [wAll, List.map_cons, List.map_nil, List.length_cons, List.length_nil, List.append_nil, List.nil_append, List.cons_append, List.replicate_zero, List.replicate_succ, Nat.reduceAdd, Nat.reduceSub, List.getElem?_cons_zero, List.getElem?_cons_succ, Option.join_some, Option.join_none, List.set_cons_zero, List.set_cons_succ, decide_eq_true_eq, Bool.not_eq_true, Bool.not_eq_false, if_true, if_false, Bool.false_eq_true, eq_self, true_and, and_true, reduceCtorEq, Bool.not_true, Bool.not_false]
  rw [later]
  simp (maxSteps := 4000000) only [wAll, List.map_cons, List.map_nil, List.length_cons, List.length_nil, List.append_nil, List.nil_append, List.cons_append, List.replicate_zero, List.replicate_succ, Nat.reduceAdd, Nat.reduceSub, List.getElem?_cons_zero, List.getElem?_cons_succ, Option.join_some, Option.join_none, List.set_cons_zero, List.set_cons_succ, decide_eq_true_eq, Bool.not_eq_true, Bool.not_eq_false, if_true, if_false, Bool.false_eq_true, eq_self, true_and, and_true, reduceCtorEq, Bool.not_true, Bool.not_false]
  have hnl := hn.len
  refine sl_str_in (by omega) ?_
  have hst : NameL 6 (ls (cutS nm none (some 6))) := by rw [cut6]; exact nameL_cut hn
  generalize cutS nm none (some 6) = st at hst
  have hsl := hst.len
  simp (maxSteps := 4000000) only [wAll, List.map_cons, List.map_nil, List.length_cons, List.length_nil, List.append_nil, List.nil_append, List.cons_append, List.replicate_zero, List.replicate_succ, Nat.reduceAdd, Nat.reduceSub, List.getElem?_cons_zero, List.getElem?_cons_succ, Option.join_some, Option.join_none, List.set_cons_zero, List.set_cons_succ, decide_eq_true_eq, Bool.not_eq_true, Bool.not_eq_false, if_true, if_false, Bool.false_eq_true, eq_self, true_and, and_true, reduceCtorEq, Bool.not_true, Bool.not_false]
  rw [later]
  have ll : (stsT tk).length = tk.length := by unfold stsT; rw [List.length_map]
  simp (maxSteps := 4000000) only [wAll, List.map_cons, List.map_nil, List.length_cons, List.length_nil, List.append_nil, List.nil_append, List.cons_append, List.replicate_zero, List.replicate_succ, Nat.reduceAdd, Nat.reduceSub, List.getElem?_cons_zero, List.getElem?_cons_succ, Option.join_some, Option.join_none, List.set_cons_zero, List.set_cons_succ, decide_eq_true_eq, Bool.not_eq_true, Bool.not_eq_false, if_true, if_false, Bool.false_eq_true, eq_self, true_and, and_true, reduceCtorEq, Bool.not_true, Bool.not_false]
  rw [ll]
  refine ⟨by (first | omega | (unfold RngOk; omega) | (unfold MulOk; omega) | (simp; omega) | (simp <;> omega)), ?_⟩
  rw [show ((tk.length : Int) + 1).toNat = tk.length + 1 by omega]
  have hc : ∀ k, NameL 8 (ls (cnd st k)) := fun k => by
    rw [ls_cnd]
    refine hst.add (m := 2) (fun c hc => ?_) (by simp)
    rcases List.mem_cons.mp hc with rfl | hc
    · exact sgn_sg _
    · rcases List.mem_cons.mp hc with rfl | hc
      · exact sgn_sg _
      · cases hc
  refine forR (fun k e => ∃ (z : Str) (r : Option T), NameL 8 (ls z) ∧ (∀ j, j + 1 < k → cnd st j ∈ tk) ∧ (0 < k → z = cnd st (k - 1)) ∧ e = [some s', some (.lst (stsT tk)), some (.str (Str.ofString "abcdefghijklmnopqrstuvwxyz0123456789")), some (.str z), some (.str st), r]) ⟨nm, none, hn, fun j hj => by omega, fun hk => by omega, rfl⟩ ?_ ?_
  · rintro k hk e ⟨z, r, hz, hin, hzk, rfl⟩
    simp (maxSteps := 4000000) only [wAll, List.map_cons, List.map_nil, List.length_cons, List.length_nil, List.append_nil, List.nil_append, List.cons_append, List.replicate_zero, List.replicate_succ, Nat.reduceAdd, Nat.reduceSub, List.getElem?_cons_zero, List.getElem?_cons_succ, Option.join_some, Option.join_none, List.set_cons_zero, List.set_cons_succ, decide_eq_true_eq, Bool.not_eq_true, Bool.not_eq_false, if_true, if_false, Bool.false_eq_true, eq_self, true_and, and_true, reduceCtorEq, Bool.not_true, Bool.not_false, in_lst]
    by_cases c : z ∈ tk
    · have cd : decide (z ∈ tk) = true := decide_eq_true c
      rw [cd]
      simp (maxSteps := 4000000) only [wAll, List.map_cons, List.map_nil, List.length_cons, List.length_nil, List.append_nil, List.nil_append, List.cons_append, List.replicate_zero, List.replicate_succ, Nat.reduceAdd, Nat.reduceSub, List.getElem?_cons_zero, List.getElem?_cons_succ, Option.join_some, Option.join_none, List.set_cons_zero, List.set_cons_succ, decide_eq_true_eq, Bool.not_eq_true, Bool.not_eq_false, if_true, if_false, Bool.false_eq_true, eq_self, true_and, and_true, reduceCtorEq, Bool.not_true, Bool.not_false]
      rw [later]
      simp (maxSteps := 4000000) only [wAll, List.map_cons, List.map_nil, List.length_cons, List.length_nil, List.append_nil, List.nil_append, List.cons_append, List.replicate_zero, List.replicate_succ, Nat.reduceAdd, Nat.reduceSub, List.getElem?_cons_zero, List.getElem?_cons_succ, Option.join_some, Option.join_none, List.set_cons_zero, List.set_cons_succ, decide_eq_true_eq, Bool.not_eq_true, Bool.not_eq_false, if_true, if_false, Bool.false_eq_true, eq_self, true_and, and_true, reduceCtorEq, Bool.not_true, Bool.not_false]
      refine ⟨⟨by decide, by decide⟩, by decide, ix36 (n := k / 36) (by omega) ?_⟩
      simp (maxSteps := 4000000) only [wAll, List.map_cons, List.map_nil, List.length_cons, List.length_nil, List.append_nil, List.nil_append, List.cons_append, List.replicate_zero, List.replicate_succ, Nat.reduceAdd, Nat.reduceSub, List.getElem?_cons_zero, List.getElem?_cons_succ, Option.join_some, Option.join_none, List.set_cons_zero, List.set_cons_succ, decide_eq_true_eq, Bool.not_eq_true, Bool.not_eq_false, if_true, if_false, Bool.false_eq_true, eq_self, true_and, and_true, reduceCtorEq, Bool.not_true, Bool.not_false]
      refine add_str (by rw [ls_one]; simp; omega) ?_
      simp (maxSteps := 4000000) only [wAll, List.map_cons, List.map_nil, List.length_cons, List.length_nil, List.append_nil, List.nil_append, List.cons_append, List.replicate_zero, List.replicate_succ, Nat.reduceAdd, Nat.reduceSub, List.getElem?_cons_zero, List.getElem?_cons_succ, Option.join_some, Option.join_none, List.set_cons_zero, List.set_cons_succ, decide_eq_true_eq, Bool.not_eq_true, Bool.not_eq_false, if_true, if_false, Bool.false_eq_true, eq_self, true_and, and_true, reduceCtorEq, Bool.not_true, Bool.not_false]
      refine ⟨by decide, ix36 (n := k) (by omega) ?_⟩
      simp (maxSteps := 4000000) only [wAll, List.map_cons, List.map_nil, List.length_cons, List.length_nil, List.append_nil, List.nil_append, List.cons_append, List.replicate_zero, List.replicate_succ, Nat.reduceAdd, Nat.reduceSub, List.getElem?_cons_zero, List.getElem?_cons_succ, Option.join_some, Option.join_none, List.set_cons_zero, List.set_cons_succ, decide_eq_true_eq, Bool.not_eq_true, Bool.not_eq_false, if_true, if_false, Bool.false_eq_true, eq_self, true_and, and_true, reduceCtorEq, Bool.not_true, Bool.not_false]
      refine add_str (by rw [ls_append, ls_one, ls_one]; simp; omega) ?_
      simp (maxSteps := 4000000) only [wAll, List.map_cons, List.map_nil, List.length_cons, List.length_nil, List.append_nil, List.nil_append, List.cons_append, List.replicate_zero, List.replicate_succ, Nat.reduceAdd, Nat.reduceSub, List.getElem?_cons_zero, List.getElem?_cons_succ, Option.join_some, Option.join_none, List.set_cons_zero, List.set_cons_succ, decide_eq_true_eq, Bool.not_eq_true, Bool.not_eq_false, if_true, if_false, Bool.false_eq_true, eq_self, true_and, and_true, reduceCtorEq, Bool.not_true, Bool.not_false]
      refine ⟨cnd st k, _, hc k, fun j hj => ?_, fun _ => rfl, rfl⟩
      by_cases q : j + 1 = k
      · have := hzk (by omega)
        rw [← q, Nat.add_sub_cancel] at this
        rw [← this]; exact c
      · exact hin j (by omega)
    · have cd : decide (z ∈ tk) = false := decide_eq_false c
      rw [cd]
      simp (maxSteps := 4000000) only [wAll, List.map_cons, List.map_nil, List.length_cons, List.length_nil, List.append_nil, List.nil_append, List.cons_append, List.replicate_zero, List.replicate_succ, Nat.reduceAdd, Nat.reduceSub, List.getElem?_cons_zero, List.getElem?_cons_succ, Option.join_some, Option.join_none, List.set_cons_zero, List.set_cons_succ, decide_eq_true_eq, Bool.not_eq_true, Bool.not_eq_false, if_true, if_false, Bool.false_eq_true, eq_self, true_and, and_true, reduceCtorEq, Bool.not_true, Bool.not_false]
      exact ⟨s', rfl, hs, z, rfl, hz, c⟩
  · rintro e ⟨z, r, hz, hin, hzk, rfl⟩
    simp (maxSteps := 4000000) only [wAll, List.map_cons, List.map_nil, List.length_cons, List.length_nil, List.append_nil, List.nil_append, List.cons_append, List.replicate_zero, List.replicate_succ, Nat.reduceAdd, Nat.reduceSub, List.getElem?_cons_zero, List.getElem?_cons_succ, Option.join_some, Option.join_none, List.set_cons_zero, List.set_cons_succ, decide_eq_true_eq, Bool.not_eq_true, Bool.not_eq_false, if_true, if_false, Bool.false_eq_true, eq_self, true_and, and_true, reduceCtorEq, Bool.not_true, Bool.not_false]
    refine ⟨s', rfl, hs, z, rfl, hz, fun hm => ?_⟩
    have hzz := hzk (by omega)
    rw [Nat.add_sub_cancel] at hzz
    have all : ∀ j, j ≤ tk.length → cnd st j ∈ tk := fun j hj => by
      by_cases q : j = tk.length
      · rw [q, ← hzz]; exact hm
      · exact hin j (by omega)
    have := pigeon ((List.range (tk.length + 1)).map (cnd st)) tk (by
      exact nodup_map List.nodup_range fun a ha b hb e => cnd_inj (by have := List.mem_range.mp ha; omega) (by have := List.mem_range.mp hb; omega) e) (fun x hx => by
      obtain ⟨j, hj, rfl⟩ := List.mem_map.mp hx
      exact all j (by have := List.mem_range.mp hj; omega))
    rw [List.length_map, List.length_range] at this
    omega
end Mir
namespace Mir
open PySem PySem.Spec L2
structure WebOk (ps : List Str) (ws : List Way) : Prop where
  nd : ps.Nodup
  p2 : 2 ≤ ps.length
  p10 : ps.length ≤ 10
  w14 : ws.length ≤ 14
  ends : ∀ w ∈ ws, w.2.1 ∈ ps ∧ w.2.2 ∈ ps ∧ w.2.1 ≠ w.2.2
  nps : ∀ s ∈ ps, NameL 8 (ls s)
  nws : ∀ w ∈ ws, NameL 8 (ls w.1)
  aps : Asc ps
  alb : Asc (ws.map Prod.fst)
  eo : ∀ w ∈ ws, sLt w.2.1 w.2.2
end Mir
namespace Mir
open PySem PySem.Spec L2
structure CrOk (n : Nat) (cr : List Bg) : Prop where
  len : cr.length = n
  c0 : ∀ c ∈ cr, 0 ≤ c.1 ∧ ∀ s ∈ c.2, NameL 8 (ls s)
  nn : ((cr.map Prod.snd).flatten).Nodup
  asn : ∀ c ∈ cr, Asc c.2
  tot : (cr.map fun c => c.1 + (c.2.length : Int)).sum ≤ 8
structure CrI (n k : Nat) (pl : List Int) (rw : List (List Str)) (kn : List Str) : Prop where
  lp : pl.length = n
  lr : rw.length = n
  lk : kn.length ≤ k
  p8 : ∀ x ∈ pl, 0 ≤ x ∧ x ≤ k
  r8 : ∀ l ∈ rw, l.length ≤ k ∧ ∀ s ∈ l, NameL 8 (ls s)
  pm : rw.flatten.Perm kn
  kd : kn.Nodup
  tt : pl.sum + (kn.length : Int) = k
end Mir
namespace Mir
open PySem PySem.Spec L2
def RSame (W : Wd) : T → Prop := fun t => ∃ W2, t = wdT W2 ∧ Lg W2 ∧ W2.ps = W.ps ∧ W2.ws = W.ws
end Mir
namespace Mir
open PySem PySem.Spec L2
end Mir
namespace Mir
open PySem PySem.Spec L2
theorem AtW.lt {W : Wd} {k : Nat} {w : Way} {x : Str} (a : AtW W k w x) : k < W.hs.length := by
  rcases Nat.lt_or_ge k W.hs.length with z | z
  · exact z
  · have := a.2; rw [List.getElem?_eq_none z] at this; cases this
end Mir
namespace Mir
open PySem PySem.Spec L2
end Mir
namespace Mir
open PySem PySem.Spec L2
end Mir
namespace Mir
open PySem PySem.Spec L2
end Mir
namespace Mir
open PySem PySem.Spec L2
theorem RSame.nl {W : Wd} {t : T} {p : Prop} (h : RSame W t) : noLst t = true ∨ p := by
  obtain ⟨W2, rfl, _⟩ := h
  exact .inl (noLst_wd W2)
end Mir
namespace Mir
open PySem PySem.Spec L2
theorem in_lst2 (L : List Str) (s : Str) : inT (.str s) (.lst (stsT L)) = some (.bl (decide (s ∈ L))) ∧ ninT (.str s) (.lst (stsT L)) = some (.bl (!decide (s ∈ L))) := by
  have a := in_tup L s
  have e : inB (.str s) (.lst (stsT L)) = inB (.str s) (.tup (stsT L)) := by simp [inB, flatT, flat?]
  unfold inT ninT at a ⊢
  rw [e]; exact a
end Mir
namespace Mir
open PySem PySem.Spec L2
end Mir
namespace Mir
open PySem PySem.Spec L2
end Mir
namespace Mir
open PySem PySem.Spec L2
theorem map_erase {α β : Type} (f : α → β) : ∀ (l : List α) (i : Nat), (l.map f).eraseIdx i = (l.eraseIdx i).map f
  | [], _ => rfl
  | _ :: _, 0 => rfl
  | a :: l, i + 1 => congrArg (f a :: ·) (map_erase f l i)
def RFresh (n : Int) : T → Prop := fun t => ∃ L : List Str, t = .own (stsT L) ∧ (L.length : Int) = n ∧ L.Nodup ∧ ∀ z ∈ L, NameL 8 (ls z)
theorem RFresh.nl {n : Int} {t : T} {p : Prop} (h : RFresh n t) : noLst t = true ∨ p := by
  obtain ⟨L, rfl, _⟩ := h
  exact .inl (noLst_strs L)
def RSome {α : Type} (f : α → T) (xs : List α) (n : Int) : T → Prop := fun t => ∃ L rest : List α, t = .own (L.map f) ∧ (L ++ rest).Perm xs ∧ (L.length : Int) = if (xs.length : Int) < n then (xs.length : Int) else n
theorem RSome.nl {α : Type} {f : α → T} (hnl : ∀ a, noLst (f a) = true) {xs : List α} {n : Int} {t : T} {p : Prop} (h : RSome f xs n t) : noLst t = true ∨ p := by
  obtain ⟨L, r, rfl, _⟩ := h
  exact .inl (nl_map hnl L)
end Mir
namespace Mir
open PySem PySem.Spec L2
structure Rows where
  sp : List Str
  ln : List Way
  pl : List (Str × Int)
  ho : List (Str × Str)
structure RwOk (R : Rows) : Prop where
  sn : R.sp.Nodup
  s2 : 2 ≤ R.sp.length
  s10 : R.sp.length ≤ 10
  sm : ∀ s ∈ R.sp, NameL 8 (ls s)
  lnn : (R.ln.map Prod.fst).Nodup
  l14 : R.ln.length ≤ 14
  lm : ∀ w ∈ R.ln, NameL 8 (ls w.1) ∧ w.2.1 ∈ R.sp ∧ w.2.2 ∈ R.sp ∧ w.2.1 ≠ w.2.2
  pm : ∀ q ∈ R.pl, q.1 ∈ R.sp ∧ 0 ≤ q.2
  pc : R.pl.length ≤ 1000
  hnn : (R.ho.map Prod.fst).Nodup
  hm : ∀ q ∈ R.ho, NameL 8 (ls q.1) ∧ q.2 ∈ R.sp
  tot : (R.pl.map Prod.snd).sum + (R.ho.length : Int) ≤ 8
theorem RwOk.lm3 {R : Rows} (h : RwOk R) : ∀ w ∈ R.ln, NameL 8 (ls w.1) ∧ NameL 8 (ls w.2.1) ∧ NameL 8 (ls w.2.2) := fun w hw => ⟨(h.lm w hw).1, h.sm _ (h.lm w hw).2.1, h.sm _ (h.lm w hw).2.2.1⟩
theorem pl_pos {R : Rows} (h : RwOk R) : 0 ≤ (R.pl.map Prod.snd).sum := by
  have hm := h.pm
  generalize R.pl = l at hm
  induction l with
  | nil => simp
  | cons a l ih =>
    have h1 := (hm a (by simp)).2
    have h2 := ih fun q hq => hm q (List.mem_cons_of_mem _ hq)
    simp only [List.map_cons, List.sum_cons]; omega
structure RwLo (R : Rows) : Prop where
  s10 : R.sp.length ≤ 10
  l14 : R.ln.length ≤ 14
  l3 : ∀ w ∈ R.ln, (NameL 8 (ls w.1) ∧ NameL 8 (ls w.2.1) ∧ NameL 8 (ls w.2.2)) ∧ w.2.1 ≠ w.2.2
  pc : R.pl.length ≤ 1000
  hc : R.ho.length ≤ 1000
  hm : ∀ q ∈ R.ho, NameL 8 (ls q.1)
theorem RwOk.lo {R : Rows} (h : RwOk R) : RwLo R := ⟨h.s10, h.l14, fun w hw => ⟨h.lm3 w hw, (h.lm w hw).2.2.2⟩, h.pc, by
  have := h.tot
  have := pl_pos h
  omega, fun q hq => (h.hm q hq).1⟩
end Mir
namespace Mir
open PySem PySem.Spec L2
theorem later_seq {a b : S} {D : OD} {e : Env} (I : Env → Prop) (h : SatO (a e) ⟨I, D.rt, D.bk, D.ct, D.ex⟩) (k : ∀ e, I e → SatO (b e) D) : Later (seq a b) D e := by
  rw [later, w_seq]
  exact satO_mono h (fun e z => k e z) (fun _ _ z => z) (fun _ z => z) (fun _ z => z) fun _ _ z => z
theorem satO_seq {a b : S} {D : OD} {e : Env} (I : Env → Prop) (h : SatO (a e) ⟨I, D.rt, D.bk, D.ct, D.ex⟩) (k : ∀ e, I e → SatO (b e) D) : SatO (seq a b e) D := later_seq I h k
theorem cut_take (xs : List T) {k : Int} (h : 0 ≤ k) : cutT xs none (some k) = xs.take k.toNat := by
  have e : HT.sIx xs.length xs.length (some k) = min k.toNat xs.length := by
    show (if k < 0 then _ else min k.toNat xs.length) = _
    rw [if_neg (by omega)]
  unfold cutT
  rw [e]
  show (xs.drop 0).take (min k.toNat xs.length - 0) = _
  rw [List.drop_zero, Nat.sub_zero]
  by_cases c : k.toNat ≤ xs.length
  · rw [Nat.min_eq_left c]
  · rw [Nat.min_eq_right (by omega), List.take_length, List.take_of_length_le (by omega)]
end Mir
namespace Mir
open PySem PySem.Spec L2
end Mir
namespace Mir
open PySem PySem.Spec L2
end Mir
namespace Mir
open PySem PySem.Spec L2
theorem same_eq {t u : T} (h : smT t u) (hz : szT t ≤ 200000) : m__law_same [t, u] = .ok (.bl true) [] := (same_ok h hz).eq
end Mir
namespace Mir
open PySem PySem.Spec L2
end Mir
namespace Mir
open PySem PySem.Spec L2
end Mir
namespace Mir
open PySem PySem.Spec L2
def rowT (p : Bool × Deed) : T := if p.1 then .lst [.str p.2.1, optT p.2.2] else deedT p.2
def Hnd (t : T) (ds : List Deed) : Prop := ∃ L : List (Bool × Deed), L.map Prod.snd = ds ∧ (t = .lst (L.map rowT) ∨ t = .tup (L.map rowT))
theorem Hnd.its {t : T} {ds : List Deed} (h : Hnd t ds) : ∃ L : List (Bool × Deed), L.map Prod.snd = ds ∧ itsT t = some (L.map rowT) ∧ lenT t = some (.int (ds.length : Nat)) ∧ frz t = t ∧ noOwn t = true := by
  obtain ⟨L, e, rfl | rfl⟩ := h
  · refine ⟨L, e, rfl, ?_, VR.frz_id rfl, rfl⟩
    rw [e_len_lst, List.length_map, ← e, List.length_map]
  · refine ⟨L, e, rfl, ?_, VR.frz_id rfl, rfl⟩
    rw [e_len_tup, List.length_map, ← e, List.length_map]
theorem Hnd.tup (ds : List Deed) : Hnd (.tup (ds.map deedT)) ds := ⟨ds.map fun d => (false, d), by rw [List.map_map]; exact List.map_id _, .inr (by rw [List.map_map]; rfl)⟩
theorem Hnd.lst (ds : List Deed) : Hnd (.lst (ds.map deedT)) ds := ⟨ds.map fun d => (false, d), by rw [List.map_map]; exact List.map_id _, .inl (by rw [List.map_map]; rfl)⟩
theorem Hnd.nil : Hnd (.lst []) [] := Hnd.lst []
theorem SatF.eqB {r R : FR} (h : SatF r (fun u us => R = .ok u us) (fun u us => R = .ex u us)) : r = R := by
  cases r with
  | ok u us => exact h.symm
  | ex y us => exact h.symm
  | no => exact h.elim
end Mir
namespace Mir
open PySem PySem.Spec L2
end Mir
namespace Mir
open PySem PySem.Spec L2
end Mir
namespace Mir
open PySem PySem.Spec L2
def repA : List Str → List Str → Option Str
  | _, [] => none
  | seen, x :: r => if x ∈ seen then some x else repA (seen ++ [x]) r
def firstRep (l : List Str) : Option Str := repA [] l
def oStr : Option Str → T
  | none => .non
  | some s => .str s
def dkt (S : List Str) : List (Key × T) := S.map fun s => (.inr s, .bl true)
theorem gv_dkt {s : Str} : ∀ {S : List Str}, gvK (dkt S) (.inr s) = if s ∈ S then some (.bl true) else none
  | [] => rfl
  | a :: S => by
    show (((((Sum.inr a : Key), T.bl true) :: dkt S).find? fun kv => decide (kv.1 = (Sum.inr s : Key))).map (·.2)) = _
    by_cases c : a = s
    · subst c
      simp
    · have c1 : ¬ (Sum.inr a : Key) = Sum.inr s := fun e => c (Sum.inr.inj e)
      have c2 : ¬ s = a := fun e => c e.symm
      rw [List.find?_cons_of_neg (by simpa using c)]
      have ih := gv_dkt (s := s) (S := S)
      unfold gvK at ih
      rw [ih]
      simp [c2]
theorem din_dkt {s : Str} {S : List Str} : dinT (.str s) (.odc (dkt S)) = some (.bl (decide (s ∈ S))) := by
  show some (T.bl (gvK (dkt S) (.inr s)).isSome) = _
  rw [gv_dkt]
  by_cases c : s ∈ S
  · rw [if_pos c, decide_eq_true c]; rfl
  · rw [if_neg c, decide_eq_false c]; rfl
theorem any_dkt {s : Str} {S : List Str} : ((dkt S).any fun kv => decide (kv.1 = (Sum.inr s : Key))) = decide (s ∈ S) := by
  induction S with
  | nil => rfl
  | cons a S ih =>
    show (decide ((Sum.inr a : Key) = Sum.inr s) || (dkt S).any fun kv => decide (kv.1 = (Sum.inr s : Key))) = _
    rw [ih]
    by_cases c : a = s
    · subst c; simp
    · have c2 : ¬ s = a := fun e => c e.symm
      simp [c, c2]
theorem pv_dkt {s : Str} {S : List Str} (h : s ∉ S) : pvK (dkt S) (.inr s) (.bl true) = dkt (S ++ [s]) := by
  unfold pvK
  rw [any_dkt, decide_eq_false h]
  unfold dkt
  rw [List.map_append]; rfl
theorem dkt_len {S : List Str} : (dkt S).length = S.length := List.length_map ..
def bdT (b : Bool) (l : List Str) : T := if b then .lst (stsT l) else .tup (stsT l)
theorem bd_its (b : Bool) (l : List Str) : itsT (bdT b l) = some (stsT l) := by cases b <;> rfl
theorem bd_no (b : Bool) (l : List Str) : noOwn (bdT b l) = true := by cases b <;> rfl
theorem bd_fz (b : Bool) (l : List Str) : frz (bdT b l) = bdT b l := VR.frz_id (bd_no b l)
theorem first_rep_eq {l : List Str} (hl : l.length ≤ 1000) (b : Bool) : m_first_repeated [bdT b l] = .ok (oStr (firstRep l)) [] := by
  refine SatF.eq ?_
  have big := big1000
  have it := bd_its b l
  have bf := bd_fz b l
  unfold m_first_repeated b_first_repeated
  ((repeat (first | (rw [later]) | simp (maxSteps := 4000000) only [wAll, List.map_cons, List.map_nil, List.length_cons, List.length_nil, List.append_nil, List.nil_append, List.cons_append, List.replicate_zero, List.replicate_succ, Nat.reduceAdd, Nat.reduceSub, List.getElem?_cons_zero, List.getElem?_cons_succ, Option.join_some, Option.join_none, List.set_cons_zero, List.set_cons_succ, decide_eq_true_eq, Bool.not_eq_true, Bool.not_eq_false, if_true, if_false, Bool.false_eq_true, eq_self, true_and, and_true, reduceCtorEq, Bool.not_true, Bool.not_false, Bool.and_true, Bool.true_and, Bool.true_or, Bool.or_true, Bool.and_self] | (refine And.intro (by omega) ?_))); (try omega))
  rw [it]
  ((repeat (first | (rw [later]) | simp (maxSteps := 4000000) only [wAll, List.map_cons, List.map_nil, List.length_cons, List.length_nil, List.append_nil, List.nil_append, List.cons_append, List.replicate_zero, List.replicate_succ, Nat.reduceAdd, Nat.reduceSub, List.getElem?_cons_zero, List.getElem?_cons_succ, Option.join_some, Option.join_none, List.set_cons_zero, List.set_cons_succ, decide_eq_true_eq, Bool.not_eq_true, Bool.not_eq_false, if_true, if_false, Bool.false_eq_true, eq_self, true_and, and_true, reduceCtorEq, Bool.not_true, Bool.not_false, Bool.and_true, Bool.true_and, Bool.true_or, Bool.or_true, Bool.and_self] | (refine And.intro (by omega) ?_))); (try omega))
  refine forE (f := T.str) l (fun dn e => (∀ td, l = dn ++ td → repA dn td = firstRep l) ∧ ∃ r : Option T, e = [some (bdT b l), some (.odc (dkt dn)), r]) ⟨fun td e => by rw [List.nil_append] at e; rw [e]; rfl, none, rfl⟩ ?_ ?_
  · rintro dn s td e1 e ⟨hd, r, rfl⟩
    have h1 := hd _ e1
    have ld := congrArg List.length e1
    rw [List.length_append, List.length_cons] at ld
    have di := din_dkt (s := s) (S := dn)
    unfold repA at h1
    by_cases c : s ∈ dn
    · rw [if_pos c] at h1
      rw [decide_eq_true c] at di
      ((repeat (first | (rw [later]) | simp (maxSteps := 4000000) only [wAll, List.map_cons, List.map_nil, List.length_cons, List.length_nil, List.append_nil, List.nil_append, List.cons_append, List.replicate_zero, List.replicate_succ, Nat.reduceAdd, Nat.reduceSub, List.getElem?_cons_zero, List.getElem?_cons_succ, Option.join_some, Option.join_none, List.set_cons_zero, List.set_cons_succ, decide_eq_true_eq, Bool.not_eq_true, Bool.not_eq_false, if_true, if_false, Bool.false_eq_true, eq_self, true_and, and_true, reduceCtorEq, Bool.not_true, Bool.not_false, Bool.and_true, Bool.true_and, Bool.true_or, Bool.or_true, Bool.and_self, di] | (refine And.intro (by omega) ?_))); (try omega))
      rw [← h1]; rfl
    · rw [if_neg c] at h1
      rw [decide_eq_false c] at di
      have pv := pv_dkt c
      ((repeat (first | (rw [later]) | simp (maxSteps := 4000000) only [wAll, List.map_cons, List.map_nil, List.length_cons, List.length_nil, List.append_nil, List.nil_append, List.cons_append, List.replicate_zero, List.replicate_succ, Nat.reduceAdd, Nat.reduceSub, List.getElem?_cons_zero, List.getElem?_cons_succ, Option.join_some, Option.join_none, List.set_cons_zero, List.set_cons_succ, decide_eq_true_eq, Bool.not_eq_true, Bool.not_eq_false, if_true, if_false, Bool.false_eq_true, eq_self, true_and, and_true, reduceCtorEq, Bool.not_true, Bool.not_false, Bool.and_true, Bool.true_and, Bool.true_or, Bool.or_true, Bool.and_self, di, dkt_len, pv] | (refine And.intro (by omega) ?_))); (try omega))
      refine ⟨fun td2 e2 => ?_, _, rfl⟩
      have : td2 = td := by
        rw [e1, List.append_assoc] at e2
        have := List.append_cancel_left e2
        exact (List.cons.inj this).2.symm
      rw [this]; exact h1
  · rintro e ⟨hd, r, rfl⟩
    have h1 := hd [] (by simp)
    ((repeat (first | (rw [later]) | simp (maxSteps := 4000000) only [wAll, List.map_cons, List.map_nil, List.length_cons, List.length_nil, List.append_nil, List.nil_append, List.cons_append, List.replicate_zero, List.replicate_succ, Nat.reduceAdd, Nat.reduceSub, List.getElem?_cons_zero, List.getElem?_cons_succ, Option.join_some, Option.join_none, List.set_cons_zero, List.set_cons_succ, decide_eq_true_eq, Bool.not_eq_true, Bool.not_eq_false, if_true, if_false, Bool.false_eq_true, eq_self, true_and, and_true, reduceCtorEq, Bool.not_true, Bool.not_false, Bool.and_true, Bool.true_and, Bool.true_or, Bool.or_true, Bool.and_self] | (refine And.intro (by omega) ?_))); (try omega))
    rw [← h1]; rfl
end Mir
namespace Mir
open PySem PySem.Spec L2
theorem sl_takeL {l : List Str} {k : Int} (h : 0 ≤ k) : slT (.lst (stsT l)) none (some k) = some (.own (stsT (l.take k.toNat))) := by
  show some (T.own (cutT (stsT l) none (some k))) = _
  rw [cut_take _ h]
  unfold stsT
  rw [List.map_take]
end Mir
namespace Mir
open PySem PySem.Spec L2
def Tx (n : Nat) (z : Str) : Prop := (ls z).length ≤ n ∧ ∀ c ∈ ls z, c < 1114112
theorem Tx.weak {n m : Nat} {z : Str} (h : Tx n z) (hm : n ≤ m) : Tx m z := ⟨by have := h.1; omega, h.2⟩
theorem tx_name {z : Str} (h : NameL 8 (ls z)) : Tx 8 z := ⟨h.len.2, fun c hc => by
  rcases h.all c hc with q | q <;> omega⟩
theorem tx_ok {n : Nat} {z : Str} (h : Tx n z) : PyData.strOk z = true := by
  have := (fin_str (s := z) h.1 h.2).lay
  simpa [toPy, PyData.canLay0] using this
theorem tx_fin {z : Str} {n : Nat} (h : Tx n z) : FinT (10 * n + 2) 0 (.str z) := fin_str h.1 h.2
theorem tx_rep {L : List Str} (h : ∀ z ∈ L, Tx 20 z) (hl : L.length ≤ 1000) {u : T} (hu : u = .own (stsT L) ∨ u = .lst (stsT L) ∨ u = .tup (stsT L)) : ∃ s, repT u = some (.str s) := by
  have big : (300000 : Nat) ≤ sizeLine := by decide
  have one : ∀ t ∈ stsT L, FinT 202 0 t := fun t ht => by
    obtain ⟨z, hz, rfl⟩ := List.mem_map.mp ht
    exact tx_fin (h z hz)
  have key : ∀ v, FinT ((stsT L).length * (202 + 2) + 3) 1 v → ∃ s, repT v = some (.str s) := fun v hv => by
    have q := rep_in (Q := fun y => y = .str (toPy v).shown) (hv.weak (w' := 300000) (by rw [sts_len]; omega) (Nat.le_refl _)) (by decide) big rfl
    cases e : repT v with
    | none => rw [e] at q; exact q.elim
    | some y => rw [e] at q; exact ⟨_, congrArg some q⟩
  rcases hu with rfl | rfl | rfl
  · exact key _ (fin_own one)
  · exact key _ (fin_lst one)
  · exact key _ (fin_tup one)
theorem app_sts {L : List Str} {z : Str} : stsT L ++ [T.str z] = stsT (L ++ [z]) := sts_app1
def RTxs (n m : Nat) : T → Prop := fun t => ∃ L : List Str, t = .own (stsT L) ∧ L.length ≤ m ∧ ∀ z ∈ L, Tx n z
theorem texts_gen {s : T} {n : Nat} (h : StOk s) (hn : n ≤ 40) : SatF (m__law_texts [s, .int n]) (Gen (RTxs 12 n)) X0 := by
  have big := big1000
  unfold m__law_texts b__law_texts
  ((repeat (first | (rw [later]) | simp (maxSteps := 4000000) only [wAll, List.map_cons, List.map_nil, List.length_cons, List.length_nil, List.append_nil, List.nil_append, List.cons_append, List.replicate_zero, List.replicate_succ, Nat.reduceAdd, Nat.reduceSub, List.getElem?_cons_zero, List.getElem?_cons_succ, Option.join_some, Option.join_none, List.set_cons_zero, List.set_cons_succ, decide_eq_true_eq, Bool.not_eq_true, Bool.not_eq_false, if_true, if_false, Bool.false_eq_true, eq_self, true_and, and_true, reduceCtorEq, Bool.not_true, Bool.not_false, Bool.and_true, Bool.true_and, Bool.true_or, Bool.or_true, Bool.and_self] | (refine And.intro (by omega) ?_))); (try omega))
  refine gen_call (upto_gen h (by omega) (by omega)) (fun _ q => q.nl) fun t s' hs => ?_
  rintro ⟨m, rfl, m1, m2⟩
  ((repeat (first | (rw [later]) | simp (maxSteps := 4000000) only [wAll, List.map_cons, List.map_nil, List.length_cons, List.length_nil, List.append_nil, List.nil_append, List.cons_append, List.replicate_zero, List.replicate_succ, Nat.reduceAdd, Nat.reduceSub, List.getElem?_cons_zero, List.getElem?_cons_succ, Option.join_some, Option.join_none, List.set_cons_zero, List.set_cons_succ, decide_eq_true_eq, Bool.not_eq_true, Bool.not_eq_false, if_true, if_false, Bool.false_eq_true, eq_self, true_and, and_true, reduceCtorEq, Bool.not_true, Bool.not_false, Bool.and_true, Bool.true_and, Bool.true_or, Bool.or_true, Bool.and_self, o_rng1] | (refine And.intro (by omega) ?_))); (try omega))
  refine ⟨by (first | omega | (unfold RngOk; omega) | (unfold MulOk; omega) | (simp; omega) | (simp <;> omega)), ?_⟩
  refine forR (fun k e => ∃ (s' : T) (L : List Str) (r3 r4 : Option T), StOk s' ∧ L.length = k ∧ (∀ z ∈ L, Tx 12 z) ∧ e = [some s', some (.int n), some (.own (stsT L)), r3, r4]) ⟨s', [], none, none, hs, rfl, fun _ z => (nomatch z), rfl⟩ ?_ ?_
  · rintro k hk e ⟨s', L, r3, r4, hs, lL, hL, rfl⟩
    have lk : L.length ≤ 40 := by omega
    have fs : frzs (stsT L) = stsT L := frzs_sts L
    have la : (stsT L).length < sizeLine := by rw [sts_len]; omega
    have ll := sts_len L
    ((repeat (first | (rw [later]) | simp (maxSteps := 4000000) only [wAll, List.map_cons, List.map_nil, List.length_cons, List.length_nil, List.append_nil, List.nil_append, List.cons_append, List.replicate_zero, List.replicate_succ, Nat.reduceAdd, Nat.reduceSub, List.getElem?_cons_zero, List.getElem?_cons_succ, Option.join_some, Option.join_none, List.set_cons_zero, List.set_cons_succ, decide_eq_true_eq, Bool.not_eq_true, Bool.not_eq_false, if_true, if_false, Bool.false_eq_true, eq_self, true_and, and_true, reduceCtorEq, Bool.not_true, Bool.not_false, Bool.and_true, Bool.true_and, Bool.true_or, Bool.or_true, Bool.and_self] | (refine And.intro (by omega) ?_))); (try omega))
    refine gen_call (take_gen hs (by omega) (by omega)) (fun _ q => q.nl) fun t s' hs => ?_
    rintro ⟨j, rfl, j1, j2⟩
    have fin : ∀ (s' : T) (z : Str), StOk s' → Tx 12 z → ∃ (s2 : T) (L2 : List Str) (r3 r4 : Option T), StOk s2 ∧ L2.length = k + 1 ∧ (∀ z ∈ L2, Tx 12 z) ∧ [some s', some (T.int n), some (.own (stsT L ++ [.str z])), some (.int (k : Int)), some (.int j)] = [some s2, some (.int n), some (.own (stsT L2)), r3, r4] := fun s' z hs hz => ⟨s', L ++ [z], _, _, hs, by rw [List.length_append, lL]; rfl, fun y hy => by
      rcases List.mem_append.mp hy with q | q
      · exact hL y q
      · rw [List.mem_singleton.mp q]; exact hz, by rw [app_sts]⟩
    by_cases c1 : j = 1 ∧ 0 < L.length
    · have c1' : (j = 1) = True := eq_true c1.1
      have c2' : ((0 : Int) < (L.length : Nat)) = True := eq_true (by omega)
      ((repeat (first | (rw [later]) | simp (maxSteps := 4000000) only [wAll, List.map_cons, List.map_nil, List.length_cons, List.length_nil, List.append_nil, List.nil_append, List.cons_append, List.replicate_zero, List.replicate_succ, Nat.reduceAdd, Nat.reduceSub, List.getElem?_cons_zero, List.getElem?_cons_succ, Option.join_some, Option.join_none, List.set_cons_zero, List.set_cons_succ, decide_eq_true_eq, Bool.not_eq_true, Bool.not_eq_false, if_true, if_false, Bool.false_eq_true, eq_self, true_and, and_true, reduceCtorEq, Bool.not_true, Bool.not_false, Bool.and_true, Bool.true_and, Bool.true_or, Bool.or_true, Bool.and_self, c1', c2', ll, fs] | (refine And.intro (by omega) ?_))); (try omega))
      refine gen_call (one_gen hs (by rw [sts_len]; omega) (by rw [sts_len]; omega)) (fun t q => by obtain ⟨z, _, rfl⟩ := List.mem_map.mp q; exact .inl rfl) fun t s' hs q => ?_
      obtain ⟨z, hz, rfl⟩ := List.mem_map.mp q
      ((repeat (first | (rw [later]) | simp (maxSteps := 4000000) only [wAll, List.map_cons, List.map_nil, List.length_cons, List.length_nil, List.append_nil, List.nil_append, List.cons_append, List.replicate_zero, List.replicate_succ, Nat.reduceAdd, Nat.reduceSub, List.getElem?_cons_zero, List.getElem?_cons_succ, Option.join_some, Option.join_none, List.set_cons_zero, List.set_cons_succ, decide_eq_true_eq, Bool.not_eq_true, Bool.not_eq_false, if_true, if_false, Bool.false_eq_true, eq_self, true_and, and_true, reduceCtorEq, Bool.not_true, Bool.not_false, Bool.and_true, Bool.true_and, Bool.true_or, Bool.or_true, Bool.and_self, la] | (refine And.intro (by omega) ?_))); (try omega))
      exact fin s' z hs (hL z hz)
    · have cc : (j = 1) = False ∨ ((j = 1) = True ∧ ((0 : Int) < (L.length : Nat)) = False) := by
        by_cases q : j = 1
        · exact .inr ⟨eq_true q, eq_false (by omega)⟩
        · exact .inl (eq_false q)
      by_cases c2 : j = 2
      · have d1 : (j = 1) = False := eq_false (by omega)
        have d2 : (j = 2) = True := eq_true c2
        ((repeat (first | (rw [later]) | simp (maxSteps := 4000000) only [wAll, List.map_cons, List.map_nil, List.length_cons, List.length_nil, List.append_nil, List.nil_append, List.cons_append, List.replicate_zero, List.replicate_succ, Nat.reduceAdd, Nat.reduceSub, List.getElem?_cons_zero, List.getElem?_cons_succ, Option.join_some, Option.join_none, List.set_cons_zero, List.set_cons_succ, decide_eq_true_eq, Bool.not_eq_true, Bool.not_eq_false, if_true, if_false, Bool.false_eq_true, eq_self, true_and, and_true, reduceCtorEq, Bool.not_true, Bool.not_false, Bool.and_true, Bool.true_and, Bool.true_or, Bool.or_true, Bool.and_self, d1, d2] | (refine And.intro (by omega) ?_))); (try omega))
        refine gen_call (text_gen hs (by omega) (by omega)) (fun _ q => q.nl) fun t s' hs q => ?_
        obtain ⟨z, rfl, z1, z2⟩ := q
        ((repeat (first | (rw [later]) | simp (maxSteps := 4000000) only [wAll, List.map_cons, List.map_nil, List.length_cons, List.length_nil, List.append_nil, List.nil_append, List.cons_append, List.replicate_zero, List.replicate_succ, Nat.reduceAdd, Nat.reduceSub, List.getElem?_cons_zero, List.getElem?_cons_succ, Option.join_some, Option.join_none, List.set_cons_zero, List.set_cons_succ, decide_eq_true_eq, Bool.not_eq_true, Bool.not_eq_false, if_true, if_false, Bool.false_eq_true, eq_self, true_and, and_true, reduceCtorEq, Bool.not_true, Bool.not_false, Bool.and_true, Bool.true_and, Bool.true_or, Bool.or_true, Bool.and_self, la] | (refine And.intro (by omega) ?_))); (try omega))
        exact fin s' z hs ⟨by simpa using z1, fun c hc => by have := z2 c hc; omega⟩
      · have d2 : (j = 2) = False := eq_false c2
        rcases cc with d1 | ⟨d1, d3⟩
        · ((repeat (first | (rw [later]) | simp (maxSteps := 4000000) only [wAll, List.map_cons, List.map_nil, List.length_cons, List.length_nil, List.append_nil, List.nil_append, List.cons_append, List.replicate_zero, List.replicate_succ, Nat.reduceAdd, Nat.reduceSub, List.getElem?_cons_zero, List.getElem?_cons_succ, Option.join_some, Option.join_none, List.set_cons_zero, List.set_cons_succ, decide_eq_true_eq, Bool.not_eq_true, Bool.not_eq_false, if_true, if_false, Bool.false_eq_true, eq_self, true_and, and_true, reduceCtorEq, Bool.not_true, Bool.not_false, Bool.and_true, Bool.true_and, Bool.true_or, Bool.or_true, Bool.and_self, d1, d2, fs] | (refine And.intro (by omega) ?_))); (try omega))
          refine gen_call (new_name_gen hs (by omega)) (fun _ q => q.nl) fun t s' hs q => ?_
          obtain ⟨z, rfl, z1, _⟩ := q
          ((repeat (first | (rw [later]) | simp (maxSteps := 4000000) only [wAll, List.map_cons, List.map_nil, List.length_cons, List.length_nil, List.append_nil, List.nil_append, List.cons_append, List.replicate_zero, List.replicate_succ, Nat.reduceAdd, Nat.reduceSub, List.getElem?_cons_zero, List.getElem?_cons_succ, Option.join_some, Option.join_none, List.set_cons_zero, List.set_cons_succ, decide_eq_true_eq, Bool.not_eq_true, Bool.not_eq_false, if_true, if_false, Bool.false_eq_true, eq_self, true_and, and_true, reduceCtorEq, Bool.not_true, Bool.not_false, Bool.and_true, Bool.true_and, Bool.true_or, Bool.or_true, Bool.and_self, la] | (refine And.intro (by omega) ?_))); (try omega))
          exact fin s' z hs ((tx_name z1).weak (by omega))
        · ((repeat (first | (rw [later]) | simp (maxSteps := 4000000) only [wAll, List.map_cons, List.map_nil, List.length_cons, List.length_nil, List.append_nil, List.nil_append, List.cons_append, List.replicate_zero, List.replicate_succ, Nat.reduceAdd, Nat.reduceSub, List.getElem?_cons_zero, List.getElem?_cons_succ, Option.join_some, Option.join_none, List.set_cons_zero, List.set_cons_succ, decide_eq_true_eq, Bool.not_eq_true, Bool.not_eq_false, if_true, if_false, Bool.false_eq_true, eq_self, true_and, and_true, reduceCtorEq, Bool.not_true, Bool.not_false, Bool.and_true, Bool.true_and, Bool.true_or, Bool.or_true, Bool.and_self, d1, d2, d3, ll, fs] | (refine And.intro (by omega) ?_))); (try omega))
          refine gen_call (new_name_gen hs (by omega)) (fun _ q => q.nl) fun t s' hs q => ?_
          obtain ⟨z, rfl, z1, _⟩ := q
          ((repeat (first | (rw [later]) | simp (maxSteps := 4000000) only [wAll, List.map_cons, List.map_nil, List.length_cons, List.length_nil, List.append_nil, List.nil_append, List.cons_append, List.replicate_zero, List.replicate_succ, Nat.reduceAdd, Nat.reduceSub, List.getElem?_cons_zero, List.getElem?_cons_succ, Option.join_some, Option.join_none, List.set_cons_zero, List.set_cons_succ, decide_eq_true_eq, Bool.not_eq_true, Bool.not_eq_false, if_true, if_false, Bool.false_eq_true, eq_self, true_and, and_true, reduceCtorEq, Bool.not_true, Bool.not_false, Bool.and_true, Bool.true_and, Bool.true_or, Bool.or_true, Bool.and_self, la] | (refine And.intro (by omega) ?_))); (try omega))
          exact fin s' z hs ((tx_name z1).weak (by omega))
  · rintro e ⟨s', L, r3, r4, hs, lL, hL, rfl⟩
    ((repeat (first | (rw [later]) | simp (maxSteps := 4000000) only [wAll, List.map_cons, List.map_nil, List.length_cons, List.length_nil, List.append_nil, List.nil_append, List.cons_append, List.replicate_zero, List.replicate_succ, Nat.reduceAdd, Nat.reduceSub, List.getElem?_cons_zero, List.getElem?_cons_succ, Option.join_some, Option.join_none, List.set_cons_zero, List.set_cons_succ, decide_eq_true_eq, Bool.not_eq_true, Bool.not_eq_false, if_true, if_false, Bool.false_eq_true, eq_self, true_and, and_true, reduceCtorEq, Bool.not_true, Bool.not_false, Bool.and_true, Bool.true_and, Bool.true_or, Bool.or_true, Bool.and_self] | (refine And.intro (by omega) ?_))); (try omega))
    exact ⟨s', rfl, hs, L, rfl, by omega, hL⟩
end Mir
namespace Mir
open PySem PySem.Spec L2
theorem repA_nd2 : ∀ {l seen : List Str}, seen.Nodup → (repA seen l = none ↔ (seen ++ l).Nodup)
  | [], seen, h => by simp [repA, h]
  | x :: r, seen, h => by
    unfold repA
    by_cases c : x ∈ seen
    · rw [if_pos c]
      constructor
      · intro z; cases z
      · intro z
        have := (List.nodup_append.mp z).2.2 x c x (List.mem_cons_self ..)
        exact absurd rfl this
    · rw [if_neg c, repA_nd2 (by
        rw [List.nodup_append]
        exact ⟨h, by simp, fun a ha b hb e => by
          rw [List.mem_singleton.mp hb] at e
          exact c (e ▸ ha)⟩), List.append_assoc]; rfl
theorem first_nd {l : List Str} : firstRep l = none ↔ l.Nodup := repA_nd2 (seen := []) List.nodup_nil
theorem sl_bd {l : List Str} {k : Nat} (b : Bool) : ∃ v, slT (bdT b l) none (some (k : Int)) = some v ∧ ∀ s, inT (.str s) v = some (.bl (decide (s ∈ l.take k))) := by
  cases b with
  | true =>
    refine ⟨_, sl_takeL (l := l) (k := (k : Int)) (by omega), fun s => ?_⟩
    rw [Int.toNat_natCast]
    exact (in_own _ s).1
  | false =>
    refine ⟨.tup (stsT (l.take k)), ?_, fun s => (in_tup _ s).1⟩
    show some (T.tup (cutT (stsT l) none (some (k : Int)))) = _
    rw [cut_take _ (by omega), Int.toNat_natCast]
    unfold stsT
    rw [List.map_take]
theorem bd_len (b : Bool) (l : List Str) : lenT (bdT b l) = some (.int (l.length : Nat)) := by
  cases b
  · show lenT (.tup _) = _
    rw [e_len_tup, sts_len]
  · show lenT (.lst _) = _
    rw [e_len_lst, sts_len]
theorem bd_ix {b : Bool} {l : List Str} {k : Nat} {s : Str} (e : l[k]? = some s) : ixT (bdT b l) (.int (k : Nat)) = some (.str s) := by
  cases b
  · exact e_ix_tup.trans (at_strs e)
  · exact e_ix_lst.trans (at_strs e)
theorem bd_nin (b : Bool) (l : List Str) (s : Str) : ninT (.str s) (bdT b l) = some (.bl (!decide (s ∈ l))) := by
  cases b
  · exact (in_tup l s).2
  · exact (in_lst2 l s).2
theorem twice2 {l : List Str} (hl : l.length ≤ 1000) (b : Bool) : m__law_twice [bdT b l] = .ok (oStr (firstRep l)) [] := by
  refine SatF.eq ?_
  have big := big1000
  have le := bd_len b l
  unfold m__law_twice b__law_twice
  ((repeat (first | (rw [later]) | simp (maxSteps := 4000000) only [wAll, List.map_cons, List.map_nil, List.length_cons, List.length_nil, List.append_nil, List.nil_append, List.cons_append, List.replicate_zero, List.replicate_succ, Nat.reduceAdd, Nat.reduceSub, List.getElem?_cons_zero, List.getElem?_cons_succ, Option.join_some, Option.join_none, List.set_cons_zero, List.set_cons_succ, decide_eq_true_eq, Bool.not_eq_true, Bool.not_eq_false, if_true, if_false, Bool.false_eq_true, eq_self, true_and, and_true, reduceCtorEq, Bool.not_true, Bool.not_false, Bool.and_true, Bool.true_and, Bool.true_or, Bool.or_true, Bool.and_self, o_rng1, le] | (refine And.intro (by omega) ?_))); (try omega))
  refine ⟨by (first | omega | (unfold RngOk; omega) | (unfold MulOk; omega) | (simp; omega) | (simp <;> omega)), ?_⟩
  rw [Int.toNat_natCast]
  refine forR (fun k e => repA (l.take k) (l.drop k) = firstRep l ∧ ∃ r : Option T, e = [some (bdT b l), r]) ⟨rfl, none, rfl⟩ ?_ ?_
  · rintro k hk e ⟨hd, r, rfl⟩
    have e1 : l[k]? = some l[k] := List.getElem?_eq_getElem hk
    have ed : l.drop k = l[k] :: l.drop (k + 1) := List.drop_eq_getElem_cons hk
    have et : l.take (k + 1) = l.take k ++ [l[k]] := by rw [List.take_succ, e1]; rfl
    rw [ed] at hd
    unfold repA at hd
    generalize l[k] = s at *
    have at1 := bd_ix (b := b) e1
    obtain ⟨v, sl, hv⟩ := sl_bd (l := l) (k := k) b
    have ii := hv s
    by_cases c : s ∈ l.take k
    · rw [if_pos c] at hd
      rw [decide_eq_true c] at ii
      ((repeat (first | (rw [later]) | simp (maxSteps := 4000000) only [wAll, List.map_cons, List.map_nil, List.length_cons, List.length_nil, List.append_nil, List.nil_append, List.cons_append, List.replicate_zero, List.replicate_succ, Nat.reduceAdd, Nat.reduceSub, List.getElem?_cons_zero, List.getElem?_cons_succ, Option.join_some, Option.join_none, List.set_cons_zero, List.set_cons_succ, decide_eq_true_eq, Bool.not_eq_true, Bool.not_eq_false, if_true, if_false, Bool.false_eq_true, eq_self, true_and, and_true, reduceCtorEq, Bool.not_true, Bool.not_false, Bool.and_true, Bool.true_and, Bool.true_or, Bool.or_true, Bool.and_self, at1, sl, ii] | (refine And.intro (by omega) ?_))); (try omega))
      rw [← hd]; rfl
    · rw [if_neg c] at hd
      rw [decide_eq_false c] at ii
      ((repeat (first | (rw [later]) | simp (maxSteps := 4000000) only [wAll, List.map_cons, List.map_nil, List.length_cons, List.length_nil, List.append_nil, List.nil_append, List.cons_append, List.replicate_zero, List.replicate_succ, Nat.reduceAdd, Nat.reduceSub, List.getElem?_cons_zero, List.getElem?_cons_succ, Option.join_some, Option.join_none, List.set_cons_zero, List.set_cons_succ, decide_eq_true_eq, Bool.not_eq_true, Bool.not_eq_false, if_true, if_false, Bool.false_eq_true, eq_self, true_and, and_true, reduceCtorEq, Bool.not_true, Bool.not_false, Bool.and_true, Bool.true_and, Bool.true_or, Bool.or_true, Bool.and_self, at1, sl, ii] | (refine And.intro (by omega) ?_))); (try omega))
      exact ⟨by rw [et]; exact hd, _, rfl⟩
  · rintro e ⟨hd, r, rfl⟩
    have h1 : repA (l.take l.length) (l.drop l.length) = firstRep l := hd
    rw [List.drop_length] at h1
    ((repeat (first | (rw [later]) | simp (maxSteps := 4000000) only [wAll, List.map_cons, List.map_nil, List.length_cons, List.length_nil, List.append_nil, List.nil_append, List.cons_append, List.replicate_zero, List.replicate_succ, Nat.reduceAdd, Nat.reduceSub, List.getElem?_cons_zero, List.getElem?_cons_succ, Option.join_some, Option.join_none, List.set_cons_zero, List.set_cons_succ, decide_eq_true_eq, Bool.not_eq_true, Bool.not_eq_false, if_true, if_false, Bool.false_eq_true, eq_self, true_and, and_true, reduceCtorEq, Bool.not_true, Bool.not_false, Bool.and_true, Bool.true_and, Bool.true_or, Bool.or_true, Bool.and_self] | (refine And.intro (by omega) ?_))); (try omega))
    rw [← h1]; rfl
theorem srt_bd {L : List Str} (b : Bool) (hn : ∀ s ∈ L, PyData.strOk s = true) : srtD (bdT b L) = some (.own (stsT (sortS L))) := by
  have ok : okSrt (stsT L) = true := by
    unfold okSrt alikeT
    refine Bool.and_eq_true_iff.mpr ⟨Bool.and_eq_true_iff.mpr ⟨?_, Bool.or_eq_true_iff.mpr (.inr ?_)⟩, ?_⟩
    · refine List.all_eq_true.mpr fun x hx => List.all_eq_true.mpr fun y hy => ?_
      obtain ⟨a, _, rfl⟩ := List.mem_map.mp hx
      obtain ⟨b, _, rfl⟩ := List.mem_map.mp hy
      rfl
    · refine List.all_eq_true.mpr fun x hx => ?_
      obtain ⟨a, _, rfl⟩ := List.mem_map.mp hx
      rfl
    · refine List.all_eq_true.mpr fun x hx => ?_
      obtain ⟨a, _, rfl⟩ := List.mem_map.mp hx
      show ((PyData.str a).canLay0 && decide ((PyData.str a).depth ≤ 64)) = true
      have : (PyData.str a).depth = 0 := by simp [PyData.depth]
      rw [this]; simp [PyData.canLay0, hn a (by assumption)]
  have al : seqs? (bdT b L) = some (stsT L) := by cases b <;> rfl
  show ((seqs? (bdT b L)).bind fun ts => if okSrt ts then some (T.own (sortT ts)) else none) = _
  rw [al]
  show (if okSrt (stsT L) then some (T.own (sortT (stsT L))) else none) = _
  rw [if_pos ok]
  show some (T.own (sortT (L.map .str))) = _
  rw [sortT_str]; rfl
def repX (s : Str) : Exc := ⟨"Repeated", [("name", .str s)]⟩
theorem repX_cls {s : Str} : (repX s).cls = "Repeated" := rfl
theorem repX_fields {s : Str} : (repX s).fields = [(("name" : Str), T.str s)] := rfl
theorem asc_ok {L : List Str} (b : Bool) (hl : L.length ≤ 1000) (hn : ∀ s ∈ L, PyData.strOk s = true) (h : firstRep L = none) : m_ascending [bdT b L] = .ok (.own (stsT (sortS L))) [] := by
  refine SatF.eq ?_
  have big := big1000
  have bf := bd_fz b L
  have fr := first_rep_eq hl b
  rw [h] at fr
  have fr : m_first_repeated [bdT b L] = .ok .non [] := fr
  have sr := srt_bd b hn
  have bn := bd_no b L
  have iz : isnT .non .non = some (.bl false) := rfl
  unfold m_ascending b_ascending
  ((repeat (first | (rw [later]) | simp (maxSteps := 4000000) only [wAll, List.map_cons, List.map_nil, List.length_cons, List.length_nil, List.append_nil, List.nil_append, List.cons_append, List.replicate_zero, List.replicate_succ, Nat.reduceAdd, Nat.reduceSub, List.getElem?_cons_zero, List.getElem?_cons_succ, Option.join_some, Option.join_none, List.set_cons_zero, List.set_cons_succ, decide_eq_true_eq, Bool.not_eq_true, Bool.not_eq_false, if_true, if_false, Bool.false_eq_true, eq_self, true_and, and_true, reduceCtorEq, Bool.not_true, Bool.not_false, Bool.and_true, Bool.true_and, Bool.true_or, Bool.or_true, Bool.and_self, bf, fr, sr, iz, bn] | (refine And.intro (by omega) ?_))); (try omega))
theorem asc_x {L : List Str} {s : Str} (b : Bool) (hl : L.length ≤ 1000) (h : firstRep L = some s) : m_ascending [bdT b L] = .ex (repX s) [] := by
  refine SatF.eqx ?_
  have big := big1000
  have bf := bd_fz b L
  have fr := first_rep_eq hl b
  rw [h] at fr
  have fr : m_first_repeated [bdT b L] = .ok (.str s) [] := fr
  have bn := bd_no b L
  have iz : isnT (.str s) .non = some (.bl true) := rfl
  unfold m_ascending b_ascending repX
  ((repeat (first | (rw [later]) | simp (maxSteps := 4000000) only [wAll, List.map_cons, List.map_nil, List.length_cons, List.length_nil, List.append_nil, List.nil_append, List.cons_append, List.replicate_zero, List.replicate_succ, Nat.reduceAdd, Nat.reduceSub, List.getElem?_cons_zero, List.getElem?_cons_succ, Option.join_some, Option.join_none, List.set_cons_zero, List.set_cons_succ, decide_eq_true_eq, Bool.not_eq_true, Bool.not_eq_false, if_true, if_false, Bool.false_eq_true, eq_self, true_and, and_true, reduceCtorEq, Bool.not_true, Bool.not_false, Bool.and_true, Bool.true_and, Bool.true_or, Bool.or_true, Bool.and_self, bf, fr, iz, bn] | (refine And.intro (by omega) ?_))); (try omega))
  exact ⟨rfl, rfl⟩
theorem err_rep {u : Str} : m__law_error (repX u) [] = .ok (.tup [.str "Repeated", .str u]) [] := by
  refine SatF.eq ?_
  have hl : List.lookup ("name" : Str) [(("name" : Str), T.str u)] = some (.str u) := by simp [List.lookup]
  have sx0 : subX "Repeated" "TurnError" = true := by decide +kernel
  have sx1 : subX "Repeated" "BadName" = false := by decide +kernel
  have sx2 : subX "Repeated" "BadNumber" = false := by decide +kernel
  have sx3 : subX "Repeated" "BadSize" = false := by decide +kernel
  have sx4 : subX "Repeated" "Repeated" = true := by decide +kernel
  have sx5 : subX "Repeated" "Unknown" = false := by decide +kernel
  have sx6 : subX "Repeated" "BadEnd" = false := by decide +kernel
  have sx7 : subX "Repeated" "NoWalker" = false := by decide +kernel
  have sx8 : subX "Repeated" "Occupied" = false := by decide +kernel
  have sx9 : subX "Repeated" "Unlike" = false := by decide +kernel
  have sx10 : subX "Repeated" "Named" = false := by decide +kernel
  have sx11 : subX "Repeated" "TooLarge" = false := by decide +kernel
  have sx12 : subX "Repeated" "NoDeed" = false := by decide +kernel
  have sx13 : subX "Repeated" "BadText" = false := by decide +kernel
  have sx14 : subX "Repeated" "NoRun" = false := by decide +kernel
  have sx15 : subX "Repeated" "NothingLeft" = false := by decide +kernel
  have sx16 : subX "Repeated" "BadClaim" = false := by decide +kernel
  have sx17 : subX "Repeated" "BadRow" = false := by decide +kernel
  have sx18 : subX "Repeated" "ValueError" = true := by decide +kernel
  have sh : hasX xtab "Repeated" = true := by decide +kernel
  have sf0 : (fldsX xtab "Repeated").contains "name" = true := by decide +kernel
  have big := big1000
  unfold m__law_error b__law_error repX
  ((repeat (first | (rw [later]) | simp (maxSteps := 4000000) only [wAll, List.map_cons, List.map_nil, List.length_cons, List.length_nil, List.append_nil, List.nil_append, List.cons_append, List.replicate_zero, List.replicate_succ, Nat.reduceAdd, Nat.reduceSub, List.getElem?_cons_zero, List.getElem?_cons_succ, Option.join_some, Option.join_none, List.set_cons_zero, List.set_cons_succ, decide_eq_true_eq, Bool.not_eq_true, Bool.not_eq_false, if_true, if_false, Bool.false_eq_true, eq_self, true_and, and_true, reduceCtorEq, Bool.not_true, Bool.not_false, Bool.and_true, Bool.true_and, Bool.true_or, Bool.or_true, Bool.and_self, sx0, sx1, sx2, sx3, sx4, sx5, sx6, sx7, sx8, sx9, sx10, sx11, sx12, sx13, sx14, sx15, sx16, sx17, sx18, sh, hl] | (refine And.intro (by omega) ?_))); (try omega))
  unfold m__law_error_more b__law_error_more
  ((repeat (first | (rw [later]) | simp (maxSteps := 4000000) only [wAll, List.map_cons, List.map_nil, List.length_cons, List.length_nil, List.append_nil, List.nil_append, List.cons_append, List.replicate_zero, List.replicate_succ, Nat.reduceAdd, Nat.reduceSub, List.getElem?_cons_zero, List.getElem?_cons_succ, Option.join_some, Option.join_none, List.set_cons_zero, List.set_cons_succ, decide_eq_true_eq, Bool.not_eq_true, Bool.not_eq_false, if_true, if_false, Bool.false_eq_true, eq_self, true_and, and_true, reduceCtorEq, Bool.not_true, Bool.not_false, Bool.and_true, Bool.true_and, Bool.true_or, Bool.or_true, Bool.and_self, sx0, sx1, sx2, sx3, sx4, sx5, sx6, sx7, sx8, sx9, sx10, sx11, sx12, sx13, sx14, sx15, sx16, sx17, sx18, sh, hl] | (refine And.intro (by omega) ?_))); (try omega))
  rw [if_neg (by simp)]
  rfl
def kTupO2 (Q : T → Env → Prop) : List T → Env → Prop := fun ts e1 => ts.length ≤ sizeLine ∧ noOwns ts = false ∧ Q (.otp ts) e1
theorem k_tupO2 {Q : T → Env → Prop} {ts : List T} {e : Env} : kTupO2 Q ts e = (ts.length ≤ sizeLine ∧ noOwns ts = false ∧ Q (.otp ts) e) := rfl
theorem w_tupO2 {m : A} {e : Env} {Q : T → Env → Prop} {X : Exc → Env → Prop} : SatR (tupOE m e) Q X = SatR (m e) (kTupO2 Q) X := by
  unfold tupOE
  rw [satR_bind]
  congr 1; funext ts e1
  show SatR (if ts.length ≤ sizeLine ∧ noOwns ts = false then .ok (.otp ts) e1 else .no) Q X = _
  unfold kTupO2
  by_cases h : ts.length ≤ sizeLine ∧ noOwns ts = false
  · rw [if_pos h]
    exact propext ⟨fun z => ⟨h.1, h.2, z⟩, fun z => z.2.2⟩
  · rw [if_neg h]
    exact propext ⟨fun z => z.elim, fun z => h ⟨z.1, z.2.1⟩⟩
theorem asked_got {L : List Str} (b : Bool) (hl : L.length ≤ 1000) (hn : ∀ s ∈ L, PyData.strOk s = true) (h : firstRep L = none) : m__law_asked [bdT b L] = .ok (.otp [.str "got", .own (stsT (sortS L))]) [] := by
  refine SatF.eq ?_
  have big := big1000
  have bf := bd_fz b L
  have bn := bd_no b L
  have as := asc_ok b hl hn h
  have nl : noLsts (stsT (sortS L)) = true := noLst_strs _
  have no : noOwns [T.str "got", T.own (stsT (sortS L))] = false := rfl
  unfold m__law_asked b__law_asked
  ((repeat (first | (rw [later]) | simp (maxSteps := 4000000) only [wAll, List.map_cons, List.map_nil, List.length_cons, List.length_nil, List.append_nil, List.nil_append, List.cons_append, List.replicate_zero, List.replicate_succ, Nat.reduceAdd, Nat.reduceSub, List.getElem?_cons_zero, List.getElem?_cons_succ, Option.join_some, Option.join_none, List.set_cons_zero, List.set_cons_succ, decide_eq_true_eq, Bool.not_eq_true, Bool.not_eq_false, if_true, if_false, Bool.false_eq_true, eq_self, true_and, and_true, reduceCtorEq, Bool.not_true, Bool.not_false, Bool.and_true, Bool.true_and, Bool.true_or, Bool.or_true, Bool.and_self, bf, bn, as, w_tupO2, k_tupO2, no, nl] | (refine And.intro (by omega) ?_))); (try omega))
theorem asked_rep {L : List Str} {s : Str} (b : Bool) (hl : L.length ≤ 1000) (h : firstRep L = some s) : m__law_asked [bdT b L] = .ok (.tup [.str "Repeated", .str s]) [] := by
  refine SatF.eq ?_
  have big := big1000
  have bf := bd_fz b L
  have bn := bd_no b L
  have as := asc_x b hl h
  have sx0 : subX "Repeated" "TurnError" = true := by decide +kernel
  have sx1 : subX "Repeated" "BadName" = false := by decide +kernel
  have sx2 : subX "Repeated" "BadNumber" = false := by decide +kernel
  have sx3 : subX "Repeated" "BadSize" = false := by decide +kernel
  have sx4 : subX "Repeated" "Repeated" = true := by decide +kernel
  have sx5 : subX "Repeated" "Unknown" = false := by decide +kernel
  have sx6 : subX "Repeated" "BadEnd" = false := by decide +kernel
  have sx7 : subX "Repeated" "NoWalker" = false := by decide +kernel
  have sx8 : subX "Repeated" "Occupied" = false := by decide +kernel
  have sx9 : subX "Repeated" "Unlike" = false := by decide +kernel
  have sx10 : subX "Repeated" "Named" = false := by decide +kernel
  have sx11 : subX "Repeated" "TooLarge" = false := by decide +kernel
  have sx12 : subX "Repeated" "NoDeed" = false := by decide +kernel
  have sx13 : subX "Repeated" "BadText" = false := by decide +kernel
  have sx14 : subX "Repeated" "NoRun" = false := by decide +kernel
  have sx15 : subX "Repeated" "NothingLeft" = false := by decide +kernel
  have sx16 : subX "Repeated" "BadClaim" = false := by decide +kernel
  have sx17 : subX "Repeated" "BadRow" = false := by decide +kernel
  have sx18 : subX "Repeated" "ValueError" = true := by decide +kernel
  have sh : hasX xtab "Repeated" = true := by decide +kernel
  have sf0 : (fldsX xtab "Repeated").contains "name" = true := by decide +kernel
  unfold m__law_asked b__law_asked
  ((repeat (first | (rw [later]) | simp (maxSteps := 4000000) only [wAll, List.map_cons, List.map_nil, List.length_cons, List.length_nil, List.append_nil, List.nil_append, List.cons_append, List.replicate_zero, List.replicate_succ, Nat.reduceAdd, Nat.reduceSub, List.getElem?_cons_zero, List.getElem?_cons_succ, Option.join_some, Option.join_none, List.set_cons_zero, List.set_cons_succ, decide_eq_true_eq, Bool.not_eq_true, Bool.not_eq_false, if_true, if_false, Bool.false_eq_true, eq_self, true_and, and_true, reduceCtorEq, Bool.not_true, Bool.not_false, Bool.and_true, Bool.true_and, Bool.true_or, Bool.or_true, Bool.and_self, bf, bn, as, w_tupO2, k_tupO2, repX_cls, repX_fields, sx0, sx1, sx2, sx3, sx4, sx5, sx6, sx7, sx8, sx9, sx10, sx11, sx12, sx13, sx14, sx15, sx16, sx17, sx18, sh, err_rep] | (refine And.intro (by omega) ?_))); (try omega))
end Mir
namespace Mir
open PySem PySem.Spec L2
theorem in_order_eq {S L : List Str} (b : Bool) (hl : S.length ≤ 1000) (ha : Asc S) (el : L.length = S.length) (hm : ∀ z ∈ S, z ∈ L) : m__law_in_order [.lst (stsT S), bdT b L] = .ok (.bl true) [] := by
  refine SatF.eq ?_
  have big := big1000
  have le := bd_len b L
  rw [el] at le
  have ll := sts_len S
  have lt : ∀ {a b : Str}, ltT (.str a) (.str b) = some (.bl (decide (sLt a b))) := rfl
  have ni := bd_nin b L
  have ne : ∀ n : Nat, neT (.int (n : Nat)) (.int (n : Nat)) = some (.bl false) := fun n => by
    rw [e_ne_i, decide_eq_true rfl]; rfl
  unfold m__law_in_order b__law_in_order
  ((repeat (first | (rw [later]) | simp (maxSteps := 4000000) only [wAll, List.map_cons, List.map_nil, List.length_cons, List.length_nil, List.append_nil, List.nil_append, List.cons_append, List.replicate_zero, List.replicate_succ, Nat.reduceAdd, Nat.reduceSub, List.getElem?_cons_zero, List.getElem?_cons_succ, Option.join_some, Option.join_none, List.set_cons_zero, List.set_cons_succ, decide_eq_true_eq, Bool.not_eq_true, Bool.not_eq_false, if_true, if_false, Bool.false_eq_true, eq_self, true_and, and_true, reduceCtorEq, Bool.not_true, Bool.not_false, Bool.and_true, Bool.true_and, Bool.true_or, Bool.or_true, Bool.and_self, o_rng1, le, ll, ne] | (refine And.intro (by omega) ?_))); (try omega))
  refine ⟨by (first | omega | (unfold RngOk; omega) | (unfold MulOk; omega) | (simp; omega) | (simp <;> omega)), ?_⟩
  rw [Int.toNat_natCast]
  refine forR (fun k e => ∃ r : Option T, e = [some (.lst (stsT S)), some (bdT b L), r]) ⟨none, rfl⟩ ?_ ?_
  · rintro k hk e ⟨r, rfl⟩
    have e1 : S[k]? = some S[k] := List.getElem?_eq_getElem hk
    have hz := hm S[k] (List.getElem_mem hk)
    have at1 := at_strs e1
    have ni1 := ni S[k]
    rw [decide_eq_true hz] at ni1
    cases k with
    | zero =>
      have c0 : ((0 : Int) < ((0 : Nat) : Int)) = False := eq_false (by omega)
      generalize S[0] = s at at1 ni1
      ((repeat (first | (rw [later]) | simp (maxSteps := 4000000) only [wAll, List.map_cons, List.map_nil, List.length_cons, List.length_nil, List.append_nil, List.nil_append, List.cons_append, List.replicate_zero, List.replicate_succ, Nat.reduceAdd, Nat.reduceSub, List.getElem?_cons_zero, List.getElem?_cons_succ, Option.join_some, Option.join_none, List.set_cons_zero, List.set_cons_succ, decide_eq_true_eq, Bool.not_eq_true, Bool.not_eq_false, if_true, if_false, Bool.false_eq_true, eq_self, true_and, and_true, reduceCtorEq, Bool.not_true, Bool.not_false, Bool.and_true, Bool.true_and, Bool.true_or, Bool.or_true, Bool.and_self, at1, ni1, c0] | (refine And.intro (by omega) ?_))); (try omega))
      exact ⟨_, rfl⟩
    | succ j =>
      have c0 : ((0 : Int) < ((j + 1 : Nat) : Int)) = True := eq_true (by omega)
      have e2 : S[j]? = some S[j] := List.getElem?_eq_getElem (by omega)
      have at2 := at_strs e2
      have ej : ((j + 1 : Nat) : Int) - 1 = (j : Nat) := by omega
      have lq : sLt S[j] S[j + 1] := List.pairwise_iff_getElem.mp ha j (j + 1) (by omega) hk (by omega)
      generalize S[j + 1] = s at at1 ni1 lq
      generalize S[j] = s0 at at2 lq
      have dq : decide (sLt s0 s) = true := decide_eq_true lq
      ((repeat (first | (rw [later]) | simp (maxSteps := 4000000) only [wAll, List.map_cons, List.map_nil, List.length_cons, List.length_nil, List.append_nil, List.nil_append, List.cons_append, List.replicate_zero, List.replicate_succ, Nat.reduceAdd, Nat.reduceSub, List.getElem?_cons_zero, List.getElem?_cons_succ, Option.join_some, Option.join_none, List.set_cons_zero, List.set_cons_succ, decide_eq_true_eq, Bool.not_eq_true, Bool.not_eq_false, if_true, if_false, Bool.false_eq_true, eq_self, true_and, and_true, reduceCtorEq, Bool.not_true, Bool.not_false, Bool.and_true, Bool.true_and, Bool.true_or, Bool.or_true, Bool.and_self, at1, ni1, c0, ej, at2, lt, dq] | (refine And.intro (by omega) ?_))); (try omega))
      exact ⟨_, rfl⟩
  · rintro e ⟨r, rfl⟩
    ((repeat (first | (rw [later]) | simp (maxSteps := 4000000) only [wAll, List.map_cons, List.map_nil, List.length_cons, List.length_nil, List.append_nil, List.nil_append, List.cons_append, List.replicate_zero, List.replicate_succ, Nat.reduceAdd, Nat.reduceSub, List.getElem?_cons_zero, List.getElem?_cons_succ, Option.join_some, Option.join_none, List.set_cons_zero, List.set_cons_succ, decide_eq_true_eq, Bool.not_eq_true, Bool.not_eq_false, if_true, if_false, Bool.false_eq_true, eq_self, true_and, and_true, reduceCtorEq, Bool.not_true, Bool.not_false, Bool.and_true, Bool.true_and, Bool.true_or, Bool.or_true, Bool.and_self] | (refine And.intro (by omega) ?_))); (try omega))
theorem spend_use2 {i j : Nat} {n : Int} {b : S} {e : Env} {D : OD} {ts us : List T} {q : Nat} (h0 : e[i]?.join = some (.otp ts)) (ha : inAt ts (.int n) = some (q, us)) (hj : j < e.length)
    (hb : SatO (b ((e.set i none).set j (some (.own us)))) ⟨fun e3 => D.nx (e3.set j none), fun _ _ => False, fun _ => False, fun _ => False, fun _ _ => False⟩) : SatO (spendS i j n b e) D := by
  unfold spendS otpAt
  rw [h0]
  show SatO (match inAt ts (.int n) with
    | some p => if j < e.length then (match b ((e.set i none).set j (some (.own p.2))) with
      | .nx e3 => O.nx (e3.set j none)
      | _ => .no) else .no
    | none => .no) D
  rw [ha]
  show SatO (if j < e.length then (match b ((e.set i none).set j (some (.own us))) with
      | .nx e3 => O.nx (e3.set j none)
      | _ => .no) else .no) D
  rw [if_pos hj]
  cases z : b ((e.set i none).set j (some (.own us))) with
  | nx e3 => rw [z] at hb; exact hb
  | rt t e => rw [z] at hb; exact hb.elim
  | bk e => rw [z] at hb; exact hb.elim
  | ct e => rw [z] at hb; exact hb.elim
  | ex x e => rw [z] at hb; exact hb.elim
  | no => rw [z] at hb; exact hb.elim
theorem row_eq {L : List Str} (b : Bool) (hl : L.length ≤ 900) (hT : ∀ z ∈ L, Tx 20 z) : m__law_row_right [bdT b L] = .ok (.bl true) [] := by
  refine SatF.eq ?_
  have big := big1000
  have bf := bd_fz b L
  have bn := bd_no b L
  have fr := first_rep_eq (l := L) (by omega) b
  have tw := twice2 (l := L) (by omega) b
  have pm : permL T.non [0] [bdT b L] = [bdT b L] := rfl
  obtain ⟨rp, erp⟩ := tx_rep hT (by omega) (u := bdT b L) (by cases b; exact .inr (.inr rfl); exact .inr (.inl rfl))
  have qs : ∀ s : Str, eqT (.str s) (.str s) = some (.bl true) := fun s => by rw [e_eq_s, decide_eq_true rfl]
  have qn : ∀ s : Str, neT (.str s) (.str s) = some (.bl false) := fun s => by rw [e_ne_s, decide_eq_true rfl]; rfl
  unfold m__law_row_right b__law_row_right
  cases ef : firstRep L with
  | none =>
    rw [ef] at fr tw
    have fr : m_first_repeated [bdT b L] = .ok .non [] := fr
    have tw : m__law_twice [bdT b L] = .ok .non [] := tw
    have as := asked_got b (by omega) (fun s hs => tx_ok (hT s hs)) ef
    have nd := first_nd.mp ef
    have io := in_order_eq (S := sortS L) (L := L) b (by rw [(sortS_perm L).length_eq]; omega) (asc_sort nd) (sortS_perm L).length_eq.symm (fun z hz => (sortS_perm L).mem_iff.mp hz)
    have lS : (sortS L).length ≤ 900 := by rw [(sortS_perm L).length_eq]; exact hl
    generalize sortS L = S at as io lS
    have s0 : m__law_same [.non, .non] = .ok (.bl true) [] := same_eq (smT_self _ rfl) (by simp [szT])
    have iz : isT .non .non = some (.bl true) := rfl
    have i0 : ixT (.otp [.str "got", .own (stsT S)]) (.int 0) = some (.str "got") := rfl
    have i1 : ixT (.otp [.str "got", .own (stsT S)]) (.int 1) = some (.own (stsT S)) := rfl
    have fs := frzs_sts S
    have la : (stsT S).length < sizeLine := by rw [sts_len]; omega
    ((repeat (first | (rw [later]) | simp (maxSteps := 4000000) only [wAll, List.map_cons, List.map_nil, List.length_cons, List.length_nil, List.append_nil, List.nil_append, List.cons_append, List.replicate_zero, List.replicate_succ, Nat.reduceAdd, Nat.reduceSub, List.getElem?_cons_zero, List.getElem?_cons_succ, Option.join_some, Option.join_none, List.set_cons_zero, List.set_cons_succ, decide_eq_true_eq, Bool.not_eq_true, Bool.not_eq_false, if_true, if_false, Bool.false_eq_true, eq_self, true_and, and_true, reduceCtorEq, Bool.not_true, Bool.not_false, Bool.and_true, Bool.true_and, Bool.true_or, Bool.or_true, Bool.and_self, bf, bn, fr, tw, erp, s0, o_rng1] | (refine And.intro (by omega) ?_))); (try omega))
    refine ⟨by (first | omega | (unfold RngOk; omega) | (unfold MulOk; omega) | (simp; omega) | (simp <;> omega)), ?_⟩
    refine forR (fun k e => ∃ r3 r4 r5 : Option T, e = [some (bdT b L), some (.str rp), some .non, r3, r4, r5]) ⟨none, none, none, rfl⟩ ?_ ?_
    · rintro k hk e ⟨r3, r4, r5, rfl⟩
      ((repeat (first | (rw [later]) | simp (maxSteps := 4000000) only [wAll, List.map_cons, List.map_nil, List.length_cons, List.length_nil, List.append_nil, List.nil_append, List.cons_append, List.replicate_zero, List.replicate_succ, Nat.reduceAdd, Nat.reduceSub, List.getElem?_cons_zero, List.getElem?_cons_succ, Option.join_some, Option.join_none, List.set_cons_zero, List.set_cons_succ, decide_eq_true_eq, Bool.not_eq_true, Bool.not_eq_false, if_true, if_false, Bool.false_eq_true, eq_self, true_and, and_true, reduceCtorEq, Bool.not_true, Bool.not_false, Bool.and_true, Bool.true_and, Bool.true_or, Bool.or_true, Bool.and_self, bf, bn, as, erp, qn, iz, i0, i1, fs, io] | (refine And.intro (by omega) ?_))); (try omega))
      refine spend_use2 (ts := [.str "got", .own (stsT S)]) (us := stsT S) (q := 1) rfl rfl (by simp) ?_
      have ixn : ixN (stsT S ++ [T.str (Str.ofString "a")]).length 0 = some 0 := by
        have : 0 < (stsT S ++ [T.str (Str.ofString "a")]).length := by simp
        have h := ixN_nat this
        exact h
      ((repeat (first | (rw [later]) | simp (maxSteps := 4000000) only [wAll, List.map_cons, List.map_nil, List.length_cons, List.length_nil, List.append_nil, List.nil_append, List.cons_append, List.replicate_zero, List.replicate_succ, Nat.reduceAdd, Nat.reduceSub, List.getElem?_cons_zero, List.getElem?_cons_succ, Option.join_some, Option.join_none, List.set_cons_zero, List.set_cons_succ, decide_eq_true_eq, Bool.not_eq_true, Bool.not_eq_false, if_true, if_false, Bool.false_eq_true, eq_self, true_and, and_true, reduceCtorEq, Bool.not_true, Bool.not_false, Bool.and_true, Bool.true_and, Bool.true_or, Bool.or_true, Bool.and_self, la, ixn] | (refine And.intro (by omega) ?_))); (try omega))
      exact ⟨_, _, _, rfl⟩
    · rintro e ⟨r3, r4, r5, rfl⟩
      ((repeat (first | (rw [later]) | simp (maxSteps := 4000000) only [wAll, List.map_cons, List.map_nil, List.length_cons, List.length_nil, List.append_nil, List.nil_append, List.cons_append, List.replicate_zero, List.replicate_succ, Nat.reduceAdd, Nat.reduceSub, List.getElem?_cons_zero, List.getElem?_cons_succ, Option.join_some, Option.join_none, List.set_cons_zero, List.set_cons_succ, decide_eq_true_eq, Bool.not_eq_true, Bool.not_eq_false, if_true, if_false, Bool.false_eq_true, eq_self, true_and, and_true, reduceCtorEq, Bool.not_true, Bool.not_false, Bool.and_true, Bool.true_and, Bool.true_or, Bool.or_true, Bool.and_self, bf, bn, fr, s0, erp, qs, pm] | (refine And.intro (by omega) ?_))); (try omega))
  | some s =>
    rw [ef] at fr tw
    have fr : m_first_repeated [bdT b L] = .ok (.str s) [] := fr
    have tw : m__law_twice [bdT b L] = .ok (.str s) [] := tw
    have as := asked_rep b (by omega) ef
    have s0 : m__law_same [.str s, .str s] = .ok (.bl true) [] := same_eq (smT_self _ rfl) (by simp [szT])
    have s1 : m__law_same [.tup [.str "Repeated", .str s], .tup [.str "Repeated", .str s]] = .ok (.bl true) [] := same_eq (smT_self _ rfl) (by simp [szT, szTs])
    have iz : isT (.str s) .non = some (.bl false) := rfl
    ((repeat (first | (rw [later]) | simp (maxSteps := 4000000) only [wAll, List.map_cons, List.map_nil, List.length_cons, List.length_nil, List.append_nil, List.nil_append, List.cons_append, List.replicate_zero, List.replicate_succ, Nat.reduceAdd, Nat.reduceSub, List.getElem?_cons_zero, List.getElem?_cons_succ, Option.join_some, Option.join_none, List.set_cons_zero, List.set_cons_succ, decide_eq_true_eq, Bool.not_eq_true, Bool.not_eq_false, if_true, if_false, Bool.false_eq_true, eq_self, true_and, and_true, reduceCtorEq, Bool.not_true, Bool.not_false, Bool.and_true, Bool.true_and, Bool.true_or, Bool.or_true, Bool.and_self, bf, bn, fr, tw, erp, s0, o_rng1] | (refine And.intro (by omega) ?_))); (try omega))
    refine ⟨by (first | omega | (unfold RngOk; omega) | (unfold MulOk; omega) | (simp; omega) | (simp <;> omega)), ?_⟩
    refine forR (fun k e => ∃ r3 r4 r5 : Option T, e = [some (bdT b L), some (.str rp), some (.str s), r3, r4, r5]) ⟨none, none, none, rfl⟩ ?_ ?_
    · rintro k hk e ⟨r3, r4, r5, rfl⟩
      ((repeat (first | (rw [later]) | simp (maxSteps := 4000000) only [wAll, List.map_cons, List.map_nil, List.length_cons, List.length_nil, List.append_nil, List.nil_append, List.cons_append, List.replicate_zero, List.replicate_succ, Nat.reduceAdd, Nat.reduceSub, List.getElem?_cons_zero, List.getElem?_cons_succ, Option.join_some, Option.join_none, List.set_cons_zero, List.set_cons_succ, decide_eq_true_eq, Bool.not_eq_true, Bool.not_eq_false, if_true, if_false, Bool.false_eq_true, eq_self, true_and, and_true, reduceCtorEq, Bool.not_true, Bool.not_false, Bool.and_true, Bool.true_and, Bool.true_or, Bool.or_true, Bool.and_self, bf, bn, as, erp, qn, iz, s1] | (refine And.intro (by omega) ?_))); (try omega))
      exact ⟨_, _, _, rfl⟩
    · rintro e ⟨r3, r4, r5, rfl⟩
      ((repeat (first | (rw [later]) | simp (maxSteps := 4000000) only [wAll, List.map_cons, List.map_nil, List.length_cons, List.length_nil, List.append_nil, List.nil_append, List.cons_append, List.replicate_zero, List.replicate_succ, Nat.reduceAdd, Nat.reduceSub, List.getElem?_cons_zero, List.getElem?_cons_succ, Option.join_some, Option.join_none, List.set_cons_zero, List.set_cons_succ, decide_eq_true_eq, Bool.not_eq_true, Bool.not_eq_false, if_true, if_false, Bool.false_eq_true, eq_self, true_and, and_true, reduceCtorEq, Bool.not_true, Bool.not_false, Bool.and_true, Bool.true_and, Bool.true_or, Bool.or_true, Bool.and_self, bf, bn, fr, s0, erp, qs, pm] | (refine And.intro (by omega) ?_))); (try omega))
end Mir
namespace Mir
open PySem PySem.Spec L2
theorem insT_m2 {l : List Str} {a : Str} {k : Int} (h0 : 0 ≤ k) (h1 : k ≤ (l.length : Nat)) (hl : l.length < 1000) : insT (stsT l) (.int k) (.str a) = some (stsT (l.take k.toNat ++ [a] ++ l.drop k.toNat)) := by
  have big := big1000
  unfold insT
  dsimp only
  rw [if_pos ⟨by rw [sts_len]; omega, h0, by omega⟩]
  unfold stsT
  rw [List.map_append, List.map_append, List.map_take, List.map_drop]; rfl
theorem popT_m2 {l : List Str} {k : Int} (h0 : 0 ≤ k) (h1 : k < (l.length : Nat)) (hl : l.length ≤ 1000) : ∃ a, a ∈ l ∧ popT (stsT l) (.int k) = some (.str a, stsT (l.eraseIdx k.toNat)) := by
  have hi : k.toNat < l.length := by omega
  refine ⟨l[k.toNat], List.getElem_mem hi, ?_⟩
  unfold popT
  dsimp only
  rw [if_pos ⟨h0, by omega⟩]
  unfold stsT
  rw [List.getElem?_map, List.getElem?_eq_getElem hi, map_erase]; rfl
theorem seqL_gen {l : List Str} {s : T} (hs : StOk s) : SatF (m__law_seq [s, .lst (stsT l)]) (Gen fun u => u = .own (stsT l) ∨ u = .tup (stsT l)) X0 := by
  have el : lisT (.lst (stsT l)) = some (.own (stsT l)) := rfl
  have et : tupT (.lst (stsT l)) = some (.tup (stsT l)) := rfl
  unfold m__law_seq b__law_seq
  ((repeat (first | (rw [later]) | simp (maxSteps := 4000000) only [wAll, List.map_cons, List.map_nil, List.length_cons, List.length_nil, List.append_nil, List.nil_append, List.cons_append, List.replicate_zero, List.replicate_succ, Nat.reduceAdd, Nat.reduceSub, List.getElem?_cons_zero, List.getElem?_cons_succ, Option.join_some, Option.join_none, List.set_cons_zero, List.set_cons_succ, decide_eq_true_eq, Bool.not_eq_true, Bool.not_eq_false, if_true, if_false, Bool.false_eq_true, eq_self, true_and, and_true, reduceCtorEq, Bool.not_true, Bool.not_false, Bool.and_true, Bool.true_and, Bool.true_or, Bool.or_true, Bool.and_self] | (refine And.intro (by omega) ?_))); (try omega))
  refine gen_call (take_gen hs (by omega) (by omega)) (fun _ q => q.nl) fun t s' hs => ?_
  rintro ⟨k, rfl, _, _⟩
  ((repeat (first | (rw [later]) | simp (maxSteps := 4000000) only [wAll, List.map_cons, List.map_nil, List.length_cons, List.length_nil, List.append_nil, List.nil_append, List.cons_append, List.replicate_zero, List.replicate_succ, Nat.reduceAdd, Nat.reduceSub, List.getElem?_cons_zero, List.getElem?_cons_succ, Option.join_some, Option.join_none, List.set_cons_zero, List.set_cons_succ, decide_eq_true_eq, Bool.not_eq_true, Bool.not_eq_false, if_true, if_false, Bool.false_eq_true, eq_self, true_and, and_true, reduceCtorEq, Bool.not_true, Bool.not_false, Bool.and_true, Bool.true_and, Bool.true_or, Bool.or_true, Bool.and_self, el, et] | (refine And.intro (by omega) ?_))); (try omega))
  refine ite_in (fun _ => ?_) fun _ => ?_
  · exact ⟨s', rfl, hs, .inl rfl⟩
  · exact ⟨s', rfl, hs, .inr rfl⟩
theorem tx_0 {z : Str} {n : Nat} (h : Tx n z) : Tx (n + 1) (z ++ Str.ofString "0") := by
  have l0 : ls (Str.ofString "0") = [48] := by decide +kernel
  refine ⟨by rw [ls_append, List.length_append, l0]; have := h.1; simp only [List.length_cons, List.length_nil]; omega, fun c hc => ?_⟩
  rw [ls_append, l0] at hc
  rcases List.mem_append.mp hc with q | q
  · exact h.2 c q
  · rw [List.mem_singleton.mp q]; omega
theorem tx_cut {z : Str} {n : Nat} {lo hi : Option Int} (h : Tx n z) : Tx n (cutS z lo hi) := ⟨by have := @cut_le z lo hi; have := h.1; omega, fun c hc => h.2 c (cut_mem hc)⟩
theorem ins_ok {L : List Str} {w : Str} {k : Int} (h0 : 0 ≤ k) (h1 : k ≤ (L.length : Nat)) (hl : L.length < 100) (hT : ∀ z ∈ L, Tx 20 z) (hw : Tx 20 w) : ∃ L1 : List Str, insT (stsT L) (.int k) (.str w) = some (stsT L1) ∧ L1.length = L.length + 1 ∧ ∀ z ∈ L1, Tx 20 z := by
  refine ⟨_, insT_m2 h0 h1 (by omega), ?_, fun z hz => ?_⟩
  · rw [List.length_append, List.length_append, List.length_take, List.length_drop]
    simp only [List.length_cons, List.length_nil]
    omega
  · rcases List.mem_append.mp hz with q | q
    · rcases List.mem_append.mp q with q | q
      · exact hT z (List.mem_of_mem_take q)
      · rw [List.mem_singleton.mp q]; exact hw
    · exact hT z (List.mem_of_mem_drop q)
theorem law_ok (ns : List Int) (h63 : ns.length ≤ 63) : SatF (m_law [.rol (ns.map .int)]) (fun t ts => t = .bl true ∧ ts = []) X0 := by
  have big := big1000
  have fr : frz (.rol (ns.map T.int)) = .rol (ns.map T.int) := by simp [frz]
  unfold m_law b_law
  simp (maxSteps := 4000000) only [wAll, List.map_cons, List.map_nil, List.length_cons, List.length_nil, List.append_nil, List.nil_append, List.cons_append, List.replicate_zero, List.replicate_succ, Nat.reduceAdd, Nat.reduceSub, List.getElem?_cons_zero, List.getElem?_cons_succ, Option.join_some, Option.join_none, List.set_cons_zero, List.set_cons_succ, decide_eq_true_eq, Bool.not_eq_true, Bool.not_eq_false, if_true, if_false, Bool.false_eq_true, eq_self, true_and, and_true, reduceCtorEq, Bool.not_true, Bool.not_false, fr]
  refine (store_ok ns h63).use fun s ts => ?_
  rintro ⟨rfl, hs⟩
  refine ⟨okR_lst rfl hs.noLst rfl, ?_⟩
  simp (maxSteps := 4000000) only [wAll, List.map_cons, List.map_nil, List.length_cons, List.length_nil, List.append_nil, List.nil_append, List.cons_append, List.replicate_zero, List.replicate_succ, Nat.reduceAdd, Nat.reduceSub, List.getElem?_cons_zero, List.getElem?_cons_succ, Option.join_some, Option.join_none, List.set_cons_zero, List.set_cons_succ, decide_eq_true_eq, Bool.not_eq_true, Bool.not_eq_false, if_true, if_false, Bool.false_eq_true, eq_self, true_and, and_true, reduceCtorEq, Bool.not_true, Bool.not_false, Bool.and_true, Bool.true_and, Bool.true_or, Bool.or_true, Bool.and_self, List.length_map, List.length_set, List.length_append, wdAll]
  rw [later]
  refine satO_seq (fun e => e = [some (.rol (ns.map T.int)), some s, some (.int 7), none, none, none, none, none, none, none]) ?_ ?_
  · simp (maxSteps := 4000000) only [wAll, List.map_cons, List.map_nil, List.length_cons, List.length_nil, List.append_nil, List.nil_append, List.cons_append, List.replicate_zero, List.replicate_succ, Nat.reduceAdd, Nat.reduceSub, List.getElem?_cons_zero, List.getElem?_cons_succ, Option.join_some, Option.join_none, List.set_cons_zero, List.set_cons_succ, decide_eq_true_eq, Bool.not_eq_true, Bool.not_eq_false, if_true, if_false, Bool.false_eq_true, eq_self, true_and, and_true, reduceCtorEq, Bool.not_true, Bool.not_false, Bool.and_true, Bool.true_and, Bool.true_or, Bool.or_true, Bool.and_self, List.length_map, List.length_set, List.length_append, wdAll]
  rintro e rfl
  refine satO_seq (fun e => ∃ (s' : T) (m : Nat), StOk s' ∧ m ≤ 40 ∧ e = [some (.rol (ns.map T.int)), some s', some (.int m), none, none, none, none, none, none, none]) ?_ ?_
  · ((repeat (first | (rw [later]) | simp (maxSteps := 4000000) only [wAll, List.map_cons, List.map_nil, List.length_cons, List.length_nil, List.append_nil, List.nil_append, List.cons_append, List.replicate_zero, List.replicate_succ, Nat.reduceAdd, Nat.reduceSub, List.getElem?_cons_zero, List.getElem?_cons_succ, Option.join_some, Option.join_none, List.set_cons_zero, List.set_cons_succ, decide_eq_true_eq, Bool.not_eq_true, Bool.not_eq_false, if_true, if_false, Bool.false_eq_true, eq_self, true_and, and_true, reduceCtorEq, Bool.not_true, Bool.not_false, Bool.and_true, Bool.true_and, Bool.true_or, Bool.or_true, Bool.and_self] | (refine And.intro (by omega) ?_))); (try omega))
    refine gen_call (take_gen hs (by omega) (by omega)) (fun _ q => q.nl) fun t s' hs => ?_
    rintro ⟨k, rfl, _, _⟩
    by_cases c : k = 1
    · ((repeat (first | (rw [later]) | simp (maxSteps := 4000000) only [wAll, List.map_cons, List.map_nil, List.length_cons, List.length_nil, List.append_nil, List.nil_append, List.cons_append, List.replicate_zero, List.replicate_succ, Nat.reduceAdd, Nat.reduceSub, List.getElem?_cons_zero, List.getElem?_cons_succ, Option.join_some, Option.join_none, List.set_cons_zero, List.set_cons_succ, decide_eq_true_eq, Bool.not_eq_true, Bool.not_eq_false, if_true, if_false, Bool.false_eq_true, eq_self, true_and, and_true, reduceCtorEq, Bool.not_true, Bool.not_false, Bool.and_true, Bool.true_and, Bool.true_or, Bool.or_true, Bool.and_self, c] | (refine And.intro (by omega) ?_))); (try omega))
      exact ⟨s', 37, hs, by omega, rfl⟩
    · have c' : (k = 1) = False := eq_false c
      ((repeat (first | (rw [later]) | simp (maxSteps := 4000000) only [wAll, List.map_cons, List.map_nil, List.length_cons, List.length_nil, List.append_nil, List.nil_append, List.cons_append, List.replicate_zero, List.replicate_succ, Nat.reduceAdd, Nat.reduceSub, List.getElem?_cons_zero, List.getElem?_cons_succ, Option.join_some, Option.join_none, List.set_cons_zero, List.set_cons_succ, decide_eq_true_eq, Bool.not_eq_true, Bool.not_eq_false, if_true, if_false, Bool.false_eq_true, eq_self, true_and, and_true, reduceCtorEq, Bool.not_true, Bool.not_false, Bool.and_true, Bool.true_and, Bool.true_or, Bool.or_true, Bool.and_self, c'] | (refine And.intro (by omega) ?_))); (try omega))
      exact ⟨s', 7, hs, by omega, rfl⟩
  rintro e ⟨s', m, hs, m40, rfl⟩
  ((repeat (first | (rw [later]) | simp (maxSteps := 4000000) only [wAll, List.map_cons, List.map_nil, List.length_cons, List.length_nil, List.append_nil, List.nil_append, List.cons_append, List.replicate_zero, List.replicate_succ, Nat.reduceAdd, Nat.reduceSub, List.getElem?_cons_zero, List.getElem?_cons_succ, Option.join_some, Option.join_none, List.set_cons_zero, List.set_cons_succ, decide_eq_true_eq, Bool.not_eq_true, Bool.not_eq_false, if_true, if_false, Bool.false_eq_true, eq_self, true_and, and_true, reduceCtorEq, Bool.not_true, Bool.not_false, Bool.and_true, Bool.true_and, Bool.true_or, Bool.or_true, Bool.and_self] | (refine And.intro (by omega) ?_))); (try omega))
  refine gen_call (texts_gen hs m40) (fun _ _ => .inr rfl) fun t s' hs => ?_
  rintro ⟨L, rfl, lL, hL⟩
  simp (maxSteps := 4000000) only [wAll, List.map_cons, List.map_nil, List.length_cons, List.length_nil, List.append_nil, List.nil_append, List.cons_append, List.replicate_zero, List.replicate_succ, Nat.reduceAdd, Nat.reduceSub, List.getElem?_cons_zero, List.getElem?_cons_succ, Option.join_some, Option.join_none, List.set_cons_zero, List.set_cons_succ, decide_eq_true_eq, Bool.not_eq_true, Bool.not_eq_false, if_true, if_false, Bool.false_eq_true, eq_self, true_and, and_true, reduceCtorEq, Bool.not_true, Bool.not_false, Bool.and_true, Bool.true_and, Bool.true_or, Bool.or_true, Bool.and_self, List.length_map, List.length_set, List.length_append, wdAll]
  rw [later]
  refine satO_seq (fun e => ∃ (s' : T) (L : List Str), StOk s' ∧ L.length ≤ 40 ∧ (∀ z ∈ L, Tx 12 z) ∧ e = [some (.rol (ns.map T.int)), some s', some (.int m), some (.own (stsT L)), none, none, none, none, none, none]) ?_ ?_
  · ((repeat (first | (rw [later]) | simp (maxSteps := 4000000) only [wAll, List.map_cons, List.map_nil, List.length_cons, List.length_nil, List.append_nil, List.nil_append, List.cons_append, List.replicate_zero, List.replicate_succ, Nat.reduceAdd, Nat.reduceSub, List.getElem?_cons_zero, List.getElem?_cons_succ, Option.join_some, Option.join_none, List.set_cons_zero, List.set_cons_succ, decide_eq_true_eq, Bool.not_eq_true, Bool.not_eq_false, if_true, if_false, Bool.false_eq_true, eq_self, true_and, and_true, reduceCtorEq, Bool.not_true, Bool.not_false, Bool.and_true, Bool.true_and, Bool.true_or, Bool.or_true, Bool.and_self] | (refine And.intro (by omega) ?_))); (try omega))
    refine gen_call (take_gen hs (by omega) (by omega)) (fun _ q => q.nl) fun t s' hs => ?_
    rintro ⟨k, rfl, _, _⟩
    by_cases c : k = 0
    · have ll := sts_len L
      have fact : ∀ {j : Nat}, j < L.length → atI (stsT L) (0 + (j : Int)) = some (.str (L.getD j "")) ∧ slT (.own (stsT L)) none (some (0 + (j : Int))) = some (.own (stsT (L.take j))) := fun {j} hj => by
        rw [Int.zero_add]
        constructor
        · rw [List.getD_eq_getElem?_getD, List.getElem?_eq_getElem hj]
          exact at_strs (List.getElem?_eq_getElem hj)
        · show ((alist? (.own (stsT L))).map fun ts => T.own (cutT ts none (some (j : Int)))) = _
          rw [alist_sts]
          show some (T.own (cutT (stsT L) none (some (j : Int)))) = _
          rw [cut_take _ (by omega), Int.toNat_natCast]
          unfold stsT
          rw [List.map_take]
      ((repeat (first | (rw [later]) | simp (maxSteps := 4000000) only [wAll, List.map_cons, List.map_nil, List.length_cons, List.length_nil, List.append_nil, List.nil_append, List.cons_append, List.replicate_zero, List.replicate_succ, Nat.reduceAdd, Nat.reduceSub, List.getElem?_cons_zero, List.getElem?_cons_succ, Option.join_some, Option.join_none, List.set_cons_zero, List.set_cons_succ, decide_eq_true_eq, Bool.not_eq_true, Bool.not_eq_false, if_true, if_false, Bool.false_eq_true, eq_self, true_and, and_true, reduceCtorEq, Bool.not_true, Bool.not_false, Bool.and_true, Bool.true_and, Bool.true_or, Bool.or_true, Bool.and_self, c, o_rng1, ll] | (refine And.intro (by omega) ?_))); (try omega))
      refine ⟨by (first | omega | (unfold RngOk; omega) | (unfold MulOk; omega) | (simp; omega) | (simp <;> omega)), rfl, lcE (f := fun j : Nat => T.int (0 + (j : Nat))) (fun j => decide (L.getD j "" ∉ L.take j)) (fun j => .str (L.getD j "")) (List.range ((L.length : Nat) : Int).toNat) rfl (fun _ _ => rfl) (by rw [List.length_range]; omega) (fun j hj => ?_) (fun j hj _ => ?_) ?_⟩
      · have hj : j < L.length := by have := List.mem_range.mp hj; omega
        obtain ⟨at1, sl⟩ := fact hj
        have ni := (in_own (L.take j) (L.getD j "")).2
        have ni : ninT (.str (L.getD j "")) (.own (stsT (L.take j))) = some (.bl (!decide (L.getD j "" ∈ L.take j))) := ni
        ((repeat (first | (rw [later]) | simp (maxSteps := 4000000) only [wAll, List.map_cons, List.map_nil, List.length_cons, List.length_nil, List.append_nil, List.nil_append, List.cons_append, List.replicate_zero, List.replicate_succ, Nat.reduceAdd, Nat.reduceSub, List.getElem?_cons_zero, List.getElem?_cons_succ, Option.join_some, Option.join_none, List.set_cons_zero, List.set_cons_succ, decide_eq_true_eq, Bool.not_eq_true, Bool.not_eq_false, if_true, if_false, Bool.false_eq_true, eq_self, true_and, and_true, reduceCtorEq, Bool.not_true, Bool.not_false, Bool.and_true, Bool.true_and, Bool.true_or, Bool.or_true, Bool.and_self, at1, sl, ni] | (refine And.intro (by omega) ?_))); (try omega))
        simp
      · have hj : j < L.length := by have := List.mem_range.mp hj; omega
        obtain ⟨at1, sl⟩ := fact hj
        ((repeat (first | (rw [later]) | simp (maxSteps := 4000000) only [wAll, List.map_cons, List.map_nil, List.length_cons, List.length_nil, List.append_nil, List.nil_append, List.cons_append, List.replicate_zero, List.replicate_succ, Nat.reduceAdd, Nat.reduceSub, List.getElem?_cons_zero, List.getElem?_cons_succ, Option.join_some, Option.join_none, List.set_cons_zero, List.set_cons_succ, decide_eq_true_eq, Bool.not_eq_true, Bool.not_eq_false, if_true, if_false, Bool.false_eq_true, eq_self, true_and, and_true, reduceCtorEq, Bool.not_true, Bool.not_false, Bool.and_true, Bool.true_and, Bool.true_or, Bool.or_true, Bool.and_self, at1] | (refine And.intro (by omega) ?_))); (try omega))
      · have em : ((List.range ((L.length : Nat) : Int).toNat).filter (fun j => decide (L.getD j "" ∉ L.take j))).map (fun j => T.str (L.getD j "")) = stsT (((List.range ((L.length : Nat) : Int).toNat).filter (fun j => decide (L.getD j "" ∉ L.take j))).map fun j => L.getD j "") := by
          unfold stsT
          rw [List.map_map]; rfl
        rw [em]
        ((repeat (first | (rw [later]) | simp (maxSteps := 4000000) only [wAll, List.map_cons, List.map_nil, List.length_cons, List.length_nil, List.append_nil, List.nil_append, List.cons_append, List.replicate_zero, List.replicate_succ, Nat.reduceAdd, Nat.reduceSub, List.getElem?_cons_zero, List.getElem?_cons_succ, Option.join_some, Option.join_none, List.set_cons_zero, List.set_cons_succ, decide_eq_true_eq, Bool.not_eq_true, Bool.not_eq_false, if_true, if_false, Bool.false_eq_true, eq_self, true_and, and_true, reduceCtorEq, Bool.not_true, Bool.not_false, Bool.and_true, Bool.true_and, Bool.true_or, Bool.or_true, Bool.and_self] | (refine And.intro (by omega) ?_))); (try omega))
        refine ⟨s', _, hs, ?_, fun z hz => ?_, rfl⟩
        · rw [List.length_map]
          have := List.length_filter_le (fun j => decide (L.getD j "" ∉ L.take j)) (List.range ((L.length : Nat) : Int).toNat)
          rw [List.length_range] at this
          omega
        · obtain ⟨j, hj, rfl⟩ := List.mem_map.mp hz
          have hj := List.mem_range.mp (List.mem_filter.mp hj).1
          have hj : j < L.length := by omega
          rw [List.getD_eq_getElem?_getD, List.getElem?_eq_getElem hj]
          exact hL _ (List.getElem_mem hj)
    · have c' : (k = 0) = False := eq_false c
      ((repeat (first | (rw [later]) | simp (maxSteps := 4000000) only [wAll, List.map_cons, List.map_nil, List.length_cons, List.length_nil, List.append_nil, List.nil_append, List.cons_append, List.replicate_zero, List.replicate_succ, Nat.reduceAdd, Nat.reduceSub, List.getElem?_cons_zero, List.getElem?_cons_succ, Option.join_some, Option.join_none, List.set_cons_zero, List.set_cons_succ, decide_eq_true_eq, Bool.not_eq_true, Bool.not_eq_false, if_true, if_false, Bool.false_eq_true, eq_self, true_and, and_true, reduceCtorEq, Bool.not_true, Bool.not_false, Bool.and_true, Bool.true_and, Bool.true_or, Bool.or_true, Bool.and_self, c'] | (refine And.intro (by omega) ?_))); (try omega))
      exact ⟨s', L, hs, by omega, hL, rfl⟩
  clear hs lL hL
  rintro e ⟨s', L, hs, lL, hL, rfl⟩
  have rr : ∀ L : List Str, L.length ≤ 100 → (∀ z ∈ L, Tx 20 z) → m__law_row_right [.lst (stsT L)] = .ok (.bl true) [] ∧ m__law_row_right [.tup (stsT L)] = .ok (.bl true) [] := fun L h1 h2 => ⟨row_eq true (by omega) h2, row_eq false (by omega) h2⟩
  have ft : ∀ L : List Str, frz (.tup (stsT L)) = .tup (stsT L) := fun L => VR.frz_id rfl
  have fs : ∀ L : List Str, frzs (stsT L) = stsT L := frzs_sts
  refine satO_seq (fun e => ∃ (s' : T), StOk s' ∧ e = [some (.rol (ns.map T.int)), some s', some (.int m), some (.own (stsT L)), none, none, none, none, none, none]) ?_ ?_
  · obtain ⟨r1, r2⟩ := rr L (by omega) fun z hz => (hL z hz).weak (by omega)
    ((repeat (first | (rw [later]) | simp (maxSteps := 4000000) only [wAll, List.map_cons, List.map_nil, List.length_cons, List.length_nil, List.append_nil, List.nil_append, List.cons_append, List.replicate_zero, List.replicate_succ, Nat.reduceAdd, Nat.reduceSub, List.getElem?_cons_zero, List.getElem?_cons_succ, Option.join_some, Option.join_none, List.set_cons_zero, List.set_cons_succ, decide_eq_true_eq, Bool.not_eq_true, Bool.not_eq_false, if_true, if_false, Bool.false_eq_true, eq_self, true_and, and_true, reduceCtorEq, Bool.not_true, Bool.not_false, Bool.and_true, Bool.true_and, Bool.true_or, Bool.or_true, Bool.and_self, fs] | (refine And.intro (by omega) ?_))); (try omega))
    refine gen_call (seqL_gen hs) (fun t q => by rcases q with rfl | rfl <;> exact .inl (noLst_strs _)) fun t s' hs q => ?_
    rcases q with rfl | rfl
    · ((repeat (first | (rw [later]) | simp (maxSteps := 4000000) only [wAll, List.map_cons, List.map_nil, List.length_cons, List.length_nil, List.append_nil, List.nil_append, List.cons_append, List.replicate_zero, List.replicate_succ, Nat.reduceAdd, Nat.reduceSub, List.getElem?_cons_zero, List.getElem?_cons_succ, Option.join_some, Option.join_none, List.set_cons_zero, List.set_cons_succ, decide_eq_true_eq, Bool.not_eq_true, Bool.not_eq_false, if_true, if_false, Bool.false_eq_true, eq_self, true_and, and_true, reduceCtorEq, Bool.not_true, Bool.not_false, Bool.and_true, Bool.true_and, Bool.true_or, Bool.or_true, Bool.and_self, fs, r1] | (refine And.intro (by omega) ?_))); (try omega))
      exact ⟨s', hs, rfl⟩
    · ((repeat (first | (rw [later]) | simp (maxSteps := 4000000) only [wAll, List.map_cons, List.map_nil, List.length_cons, List.length_nil, List.append_nil, List.nil_append, List.cons_append, List.replicate_zero, List.replicate_succ, Nat.reduceAdd, Nat.reduceSub, List.getElem?_cons_zero, List.getElem?_cons_succ, Option.join_some, Option.join_none, List.set_cons_zero, List.set_cons_succ, decide_eq_true_eq, Bool.not_eq_true, Bool.not_eq_false, if_true, if_false, Bool.false_eq_true, eq_self, true_and, and_true, reduceCtorEq, Bool.not_true, Bool.not_false, Bool.and_true, Bool.true_and, Bool.true_or, Bool.or_true, Bool.and_self, fs, ft, r1, r2] | (refine And.intro (by omega) ?_))); (try omega))
      exact ⟨s', hs, rfl⟩
  rintro e ⟨s', hs, rfl⟩
  refine satO_seq (fun e => ∃ (s' : T) (L : List Str) (r7 r8 : Option T), StOk s' ∧ L.length ≤ 50 ∧ (∀ z ∈ L, Tx 20 z) ∧ e = [some (.rol (ns.map T.int)), some s', some (.int m), some (.own (stsT L)), none, none, none, r7, r8, none]) ?_ ?_
  · have ll := sts_len L
    by_cases c0 : L.length = 0
    · have c' : ((0 : Int) < (L.length : Nat)) = False := eq_false (by omega)
      ((repeat (first | (rw [later]) | simp (maxSteps := 4000000) only [wAll, List.map_cons, List.map_nil, List.length_cons, List.length_nil, List.append_nil, List.nil_append, List.cons_append, List.replicate_zero, List.replicate_succ, Nat.reduceAdd, Nat.reduceSub, List.getElem?_cons_zero, List.getElem?_cons_succ, Option.join_some, Option.join_none, List.set_cons_zero, List.set_cons_succ, decide_eq_true_eq, Bool.not_eq_true, Bool.not_eq_false, if_true, if_false, Bool.false_eq_true, eq_self, true_and, and_true, reduceCtorEq, Bool.not_true, Bool.not_false, Bool.and_true, Bool.true_and, Bool.true_or, Bool.or_true, Bool.and_self, ll, c'] | (refine And.intro (by omega) ?_))); (try omega))
      exact ⟨s', L, _, _, hs, by omega, fun z hz => (hL z hz).weak (by omega), rfl⟩
    · have c' : ((0 : Int) < (L.length : Nat)) = True := eq_true (by omega)
      ((repeat (first | (rw [later]) | simp (maxSteps := 4000000) only [wAll, List.map_cons, List.map_nil, List.length_cons, List.length_nil, List.append_nil, List.nil_append, List.cons_append, List.replicate_zero, List.replicate_succ, Nat.reduceAdd, Nat.reduceSub, List.getElem?_cons_zero, List.getElem?_cons_succ, Option.join_some, Option.join_none, List.set_cons_zero, List.set_cons_succ, decide_eq_true_eq, Bool.not_eq_true, Bool.not_eq_false, if_true, if_false, Bool.false_eq_true, eq_self, true_and, and_true, reduceCtorEq, Bool.not_true, Bool.not_false, Bool.and_true, Bool.true_and, Bool.true_or, Bool.or_true, Bool.and_self, ll, c', fs] | (refine And.intro (by omega) ?_))); (try omega))
      refine gen_call (one_gen hs (by rw [sts_len]; omega) (by rw [sts_len]; omega)) (fun t q => by obtain ⟨z, _, rfl⟩ := List.mem_map.mp q; exact .inl rfl) fun t s' hs q => ?_
      obtain ⟨w, hw, rfl⟩ := List.mem_map.mp q
      have tw := hL w hw
      ((repeat (first | (rw [later]) | simp (maxSteps := 4000000) only [wAll, List.map_cons, List.map_nil, List.length_cons, List.length_nil, List.append_nil, List.nil_append, List.cons_append, List.replicate_zero, List.replicate_succ, Nat.reduceAdd, Nat.reduceSub, List.getElem?_cons_zero, List.getElem?_cons_succ, Option.join_some, Option.join_none, List.set_cons_zero, List.set_cons_succ, decide_eq_true_eq, Bool.not_eq_true, Bool.not_eq_false, if_true, if_false, Bool.false_eq_true, eq_self, true_and, and_true, reduceCtorEq, Bool.not_true, Bool.not_false, Bool.and_true, Bool.true_and, Bool.true_or, Bool.or_true, Bool.and_self, ll] | (refine And.intro (by omega) ?_))); (try omega))
      refine gen_call (take_gen hs (by omega) (by omega)) (fun _ q => q.nl) fun t s' hs => ?_
      rintro ⟨k, rfl, k1, k2⟩
      ((repeat (first | (rw [later]) | simp (maxSteps := 4000000) only [wAll, List.map_cons, List.map_nil, List.length_cons, List.length_nil, List.append_nil, List.nil_append, List.cons_append, List.replicate_zero, List.replicate_succ, Nat.reduceAdd, Nat.reduceSub, List.getElem?_cons_zero, List.getElem?_cons_succ, Option.join_some, Option.join_none, List.set_cons_zero, List.set_cons_succ, decide_eq_true_eq, Bool.not_eq_true, Bool.not_eq_false, if_true, if_false, Bool.false_eq_true, eq_self, true_and, and_true, reduceCtorEq, Bool.not_true, Bool.not_false, Bool.and_true, Bool.true_and, Bool.true_or, Bool.or_true, Bool.and_self] | (refine And.intro (by omega) ?_))); (try omega))
      have t0 := tx_0 tw
      refine add_str (by have := t0.1; rw [ls_append, List.length_append] at this; omega) ?_
      obtain ⟨L1, ei, l1, t1⟩ := ins_ok (L := L) (w := w ++ Str.ofString "0") k1 (by omega) (by omega) (fun z hz => (hL z hz).weak (by omega)) (t0.weak (by omega))
      obtain ⟨r1, r2⟩ := rr L1 (by omega) t1
      have la : (stsT L1).length < sizeLine := by rw [sts_len]; omega
      have ll1 := sts_len L1
      have lw := tw.1
      ((repeat (first | (rw [later]) | simp (maxSteps := 4000000) only [wAll, List.map_cons, List.map_nil, List.length_cons, List.length_nil, List.append_nil, List.nil_append, List.cons_append, List.replicate_zero, List.replicate_succ, Nat.reduceAdd, Nat.reduceSub, List.getElem?_cons_zero, List.getElem?_cons_succ, Option.join_some, Option.join_none, List.set_cons_zero, List.set_cons_succ, decide_eq_true_eq, Bool.not_eq_true, Bool.not_eq_false, if_true, if_false, Bool.false_eq_true, eq_self, true_and, and_true, reduceCtorEq, Bool.not_true, Bool.not_false, Bool.and_true, Bool.true_and, Bool.true_or, Bool.or_true, Bool.and_self, ei, fs, r1] | (refine And.intro (by omega) ?_))); (try omega))
      refine len_str (by omega) ?_
      ((repeat (first | (rw [later]) | simp (maxSteps := 4000000) only [wAll, List.map_cons, List.map_nil, List.length_cons, List.length_nil, List.append_nil, List.nil_append, List.cons_append, List.replicate_zero, List.replicate_succ, Nat.reduceAdd, Nat.reduceSub, List.getElem?_cons_zero, List.getElem?_cons_succ, Option.join_some, Option.join_none, List.set_cons_zero, List.set_cons_succ, decide_eq_true_eq, Bool.not_eq_true, Bool.not_eq_false, if_true, if_false, Bool.false_eq_true, eq_self, true_and, and_true, reduceCtorEq, Bool.not_true, Bool.not_false, Bool.and_true, Bool.true_and, Bool.true_or, Bool.or_true, Bool.and_self] | (refine And.intro (by omega) ?_))); (try omega))
      refine sl_str_in (by omega) ?_
      ((repeat (first | (rw [later]) | simp (maxSteps := 4000000) only [wAll, List.map_cons, List.map_nil, List.length_cons, List.length_nil, List.append_nil, List.nil_append, List.cons_append, List.replicate_zero, List.replicate_succ, Nat.reduceAdd, Nat.reduceSub, List.getElem?_cons_zero, List.getElem?_cons_succ, Option.join_some, Option.join_none, List.set_cons_zero, List.set_cons_succ, decide_eq_true_eq, Bool.not_eq_true, Bool.not_eq_false, if_true, if_false, Bool.false_eq_true, eq_self, true_and, and_true, reduceCtorEq, Bool.not_true, Bool.not_false, Bool.and_true, Bool.true_and, Bool.true_or, Bool.or_true, Bool.and_self, la] | (refine And.intro (by omega) ?_))); (try omega))
      have tc : ∀ hi : Option Int, Tx 20 (cutS w none hi) := fun hi => (tx_cut tw).weak (by omega)
      generalize ew : cutS w none _ = w2
      have tw2 : Tx 20 w2 := ew ▸ tc _
      obtain ⟨L2, e2, l2, t2⟩ : ∃ L2 : List Str, stsT L1 ++ [T.str w2] = stsT L2 ∧ L2.length = L.length + 2 ∧ ∀ z ∈ L2, Tx 20 z := ⟨L1 ++ [w2], app_sts, by rw [List.length_append]; simp only [List.length_cons, List.length_nil]; omega, fun z hz => by
        rcases List.mem_append.mp hz with q | q
        · exact t1 z q
        · rw [List.mem_singleton.mp q]; exact tw2⟩
      rw [e2]
      obtain ⟨r3, r4⟩ := rr L2 (by omega) t2
      have ll2 := sts_len L2
      ((repeat (first | (rw [later]) | simp (maxSteps := 4000000) only [wAll, List.map_cons, List.map_nil, List.length_cons, List.length_nil, List.append_nil, List.nil_append, List.cons_append, List.replicate_zero, List.replicate_succ, Nat.reduceAdd, Nat.reduceSub, List.getElem?_cons_zero, List.getElem?_cons_succ, Option.join_some, Option.join_none, List.set_cons_zero, List.set_cons_succ, decide_eq_true_eq, Bool.not_eq_true, Bool.not_eq_false, if_true, if_false, Bool.false_eq_true, eq_self, true_and, and_true, reduceCtorEq, Bool.not_true, Bool.not_false, Bool.and_true, Bool.true_and, Bool.true_or, Bool.or_true, Bool.and_self, fs, r3, ll2] | (refine And.intro (by omega) ?_))); (try omega))
      refine gen_call (take_gen hs (by omega) (by omega)) (fun _ q => q.nl) fun t s' hs => ?_
      rintro ⟨k3, rfl, j1, j2⟩
      ((repeat (first | (rw [later]) | simp (maxSteps := 4000000) only [wAll, List.map_cons, List.map_nil, List.length_cons, List.length_nil, List.append_nil, List.nil_append, List.cons_append, List.replicate_zero, List.replicate_succ, Nat.reduceAdd, Nat.reduceSub, List.getElem?_cons_zero, List.getElem?_cons_succ, Option.join_some, Option.join_none, List.set_cons_zero, List.set_cons_succ, decide_eq_true_eq, Bool.not_eq_true, Bool.not_eq_false, if_true, if_false, Bool.false_eq_true, eq_self, true_and, and_true, reduceCtorEq, Bool.not_true, Bool.not_false, Bool.and_true, Bool.true_and, Bool.true_or, Bool.or_true, Bool.and_self, fs] | (refine And.intro (by omega) ?_))); (try omega))
      refine gen_call (one_gen hs (by rw [sts_len]; omega) (by rw [sts_len]; omega)) (fun t q => by obtain ⟨z, _, rfl⟩ := List.mem_map.mp q; exact .inl rfl) fun t s' hs q => ?_
      obtain ⟨w3, hw3, rfl⟩ := List.mem_map.mp q
      obtain ⟨L3, ei3, l3, t3⟩ := ins_ok (L := L2) (w := w3) (k := k3) j1 (by omega) (by omega) t2 (t2 w3 hw3)
      obtain ⟨r5, r6⟩ := rr L3 (by omega) t3
      have tp : tupT (.own (stsT L3)) = some (.tup (stsT L3)) := tup_sts
      obtain ⟨w4, _, ep⟩ := popT_m2 (l := L3) (k := k3) j1 (by omega) (by omega)
      ((repeat (first | (rw [later]) | simp (maxSteps := 4000000) only [wAll, List.map_cons, List.map_nil, List.length_cons, List.length_nil, List.append_nil, List.nil_append, List.cons_append, List.replicate_zero, List.replicate_succ, Nat.reduceAdd, Nat.reduceSub, List.getElem?_cons_zero, List.getElem?_cons_succ, Option.join_some, Option.join_none, List.set_cons_zero, List.set_cons_succ, decide_eq_true_eq, Bool.not_eq_true, Bool.not_eq_false, if_true, if_false, Bool.false_eq_true, eq_self, true_and, and_true, reduceCtorEq, Bool.not_true, Bool.not_false, Bool.and_true, Bool.true_and, Bool.true_or, Bool.or_true, Bool.and_self, ei3, fs, ft, r5, r6, tp, ep] | (refine And.intro (by omega) ?_))); (try omega))
      exact ⟨s', _, _, _, hs, by rw [List.length_eraseIdx]; split <;> omega, fun z hz => t3 z (List.mem_of_mem_eraseIdx hz), rfl⟩
  clear hs lL hL
  rintro e ⟨s', L, r7, r8, hs, lL, hL, rfl⟩
  have ll := sts_len L
  have fact : ∀ {j : Nat}, j < L.length → atI (stsT L) ((L.length : Int) - 1 - (j : Int)) = some (.str (L.getD (L.length - 1 - j) "")) := fun {j} hj => by
    have ej : (L.length : Int) - 1 - (j : Int) = ((L.length - 1 - j : Nat) : Int) := by omega
    rw [ej, List.getD_eq_getElem?_getD, List.getElem?_eq_getElem (by omega : L.length - 1 - j < L.length)]
    exact at_strs (List.getElem?_eq_getElem (by omega))
  ((repeat (first | (rw [later]) | simp (maxSteps := 4000000) only [wAll, List.map_cons, List.map_nil, List.length_cons, List.length_nil, List.append_nil, List.nil_append, List.cons_append, List.replicate_zero, List.replicate_succ, Nat.reduceAdd, Nat.reduceSub, List.getElem?_cons_zero, List.getElem?_cons_succ, Option.join_some, Option.join_none, List.set_cons_zero, List.set_cons_succ, decide_eq_true_eq, Bool.not_eq_true, Bool.not_eq_false, if_true, if_false, Bool.false_eq_true, eq_self, true_and, and_true, reduceCtorEq, Bool.not_true, Bool.not_false, Bool.and_true, Bool.true_and, Bool.true_or, Bool.or_true, Bool.and_self, o_rng1, ll] | (refine And.intro (by omega) ?_))); (try omega))
  refine ⟨by (first | omega | (unfold RngOk; omega) | (unfold MulOk; omega) | (simp; omega) | (simp <;> omega)), rfl, lcM1 (f := fun j : Nat => T.int (0 + (j : Nat))) (fun j => .str (L.getD (L.length - 1 - j) "")) (List.range ((L.length : Nat) : Int).toNat) rfl (fun _ _ => rfl) (by rw [List.length_range]; omega) (fun j hj => ?_) ?_⟩
  · have hj : j < L.length := by have := List.mem_range.mp hj; omega
    have at1 := fact hj
    have z0 : (0 : Int) + (j : Int) = j := Int.zero_add _
    ((repeat (first | (rw [later]) | simp (maxSteps := 4000000) only [wAll, List.map_cons, List.map_nil, List.length_cons, List.length_nil, List.append_nil, List.nil_append, List.cons_append, List.replicate_zero, List.replicate_succ, Nat.reduceAdd, Nat.reduceSub, List.getElem?_cons_zero, List.getElem?_cons_succ, Option.join_some, Option.join_none, List.set_cons_zero, List.set_cons_succ, decide_eq_true_eq, Bool.not_eq_true, Bool.not_eq_false, if_true, if_false, Bool.false_eq_true, eq_self, true_and, and_true, reduceCtorEq, Bool.not_true, Bool.not_false, Bool.and_true, Bool.true_and, Bool.true_or, Bool.or_true, Bool.and_self, z0, ll, at1] | (refine And.intro (by omega) ?_))); (try omega))
  have em : (List.range ((L.length : Nat) : Int).toNat).map (fun j => T.str (L.getD (L.length - 1 - j) "")) = stsT ((List.range ((L.length : Nat) : Int).toNat).map fun j => L.getD (L.length - 1 - j) "") := by
    unfold stsT
    rw [List.map_map]; rfl
  rw [em]
  obtain ⟨r1, _⟩ := rr L (by omega) hL
  obtain ⟨r2, _⟩ := rr ((List.range ((L.length : Nat) : Int).toNat).map fun j => L.getD (L.length - 1 - j) "") (by rw [List.length_map, List.length_range]; omega) fun z hz => by
    obtain ⟨j, hj, rfl⟩ := List.mem_map.mp hz
    have hj := List.mem_range.mp hj
    rw [List.getD_eq_getElem?_getD, List.getElem?_eq_getElem (by omega : L.length - 1 - j < L.length)]
    exact hL _ (List.getElem_mem _)
  have fb := fs ((List.range ((L.length : Nat) : Int).toNat).map fun j => L.getD (L.length - 1 - j) "")
  generalize stsT ((List.range ((L.length : Nat) : Int).toNat).map fun j => L.getD (L.length - 1 - j) "") = back at r2 fb
  have f1 := fs L
  have pm : permL T.non [0] [.lst (stsT L)] = [.lst (stsT L)] := rfl
  have tw : m__law_twice [.lst (stsT L)] = _ := twice2 (l := L) (by omega) true
  have f0 : frzs [] = [] := rfl
  have sx0 : subX "Repeated" "TurnError" = true := by decide +kernel
  have sx1 : subX "Repeated" "BadName" = false := by decide +kernel
  have sx2 : subX "Repeated" "BadNumber" = false := by decide +kernel
  have sx3 : subX "Repeated" "BadSize" = false := by decide +kernel
  have sx4 : subX "Repeated" "Repeated" = true := by decide +kernel
  have sx5 : subX "Repeated" "Unknown" = false := by decide +kernel
  have sx6 : subX "Repeated" "BadEnd" = false := by decide +kernel
  have sx7 : subX "Repeated" "NoWalker" = false := by decide +kernel
  have sx8 : subX "Repeated" "Occupied" = false := by decide +kernel
  have sx9 : subX "Repeated" "Unlike" = false := by decide +kernel
  have sx10 : subX "Repeated" "Named" = false := by decide +kernel
  have sx11 : subX "Repeated" "TooLarge" = false := by decide +kernel
  have sx12 : subX "Repeated" "NoDeed" = false := by decide +kernel
  have sx13 : subX "Repeated" "BadText" = false := by decide +kernel
  have sx14 : subX "Repeated" "NoRun" = false := by decide +kernel
  have sx15 : subX "Repeated" "NothingLeft" = false := by decide +kernel
  have sx16 : subX "Repeated" "BadClaim" = false := by decide +kernel
  have sx17 : subX "Repeated" "BadRow" = false := by decide +kernel
  have sx18 : subX "Repeated" "ValueError" = true := by decide +kernel
  have sh : hasX xtab "Repeated" = true := by decide +kernel
  have sf0 : (fldsX xtab "Repeated").contains "name" = true := by decide +kernel
  cases ef : firstRep L with
  | none =>
    rw [ef] at tw
    have tw : m__law_twice [.lst (stsT L)] = .ok .non [] := tw
    have as : m_ascending [.lst (stsT L)] = _ := asc_ok (L := L) true (by omega) (fun s hs => tx_ok (hL s hs)) ef
    have nd := first_nd.mp ef
    have io : m__law_in_order [.lst (stsT (sortS L)), .lst (stsT L)] = _ := in_order_eq (S := sortS L) (L := L) true (by rw [(sortS_perm L).length_eq]; omega) (asc_sort nd) (sortS_perm L).length_eq.symm (fun z hz => (sortS_perm L).mem_iff.mp hz)
    have fS := fs (sortS L)
    have nS : noLsts (stsT (sortS L)) = true := noLst_strs _
    have iz : isT .non .non = some (.bl true) := rfl
    ((repeat (first | (rw [later]) | simp (maxSteps := 4000000) only [wAll, List.map_cons, List.map_nil, List.length_cons, List.length_nil, List.append_nil, List.nil_append, List.cons_append, List.replicate_zero, List.replicate_succ, Nat.reduceAdd, Nat.reduceSub, List.getElem?_cons_zero, List.getElem?_cons_succ, Option.join_some, Option.join_none, List.set_cons_zero, List.set_cons_succ, decide_eq_true_eq, Bool.not_eq_true, Bool.not_eq_false, if_true, if_false, Bool.false_eq_true, eq_self, true_and, and_true, reduceCtorEq, Bool.not_true, Bool.not_false, Bool.and_true, Bool.true_and, Bool.true_or, Bool.or_true, Bool.and_self, f1, fb, r1, r2, pm, as, tw, io, fS, iz, nS] | (refine And.intro (by omega) ?_))); (try omega))
  | some s =>
    rw [ef] at tw
    have tw : m__law_twice [.lst (stsT L)] = .ok (.str s) [] := tw
    have as : m_ascending [.lst (stsT L)] = _ := asc_x (L := L) true (by omega) ef
    have s0 : m__law_same [.str s, .str s] = .ok (.bl true) [] := same_eq (smT_self _ rfl) (by simp [szT])
    have hl : List.lookup ("name" : Str) [(("name" : Str), T.str s)] = some (.str s) := by simp [List.lookup]
    ((repeat (first | (rw [later]) | simp (maxSteps := 4000000) only [wAll, List.map_cons, List.map_nil, List.length_cons, List.length_nil, List.append_nil, List.nil_append, List.cons_append, List.replicate_zero, List.replicate_succ, Nat.reduceAdd, Nat.reduceSub, List.getElem?_cons_zero, List.getElem?_cons_succ, Option.join_some, Option.join_none, List.set_cons_zero, List.set_cons_succ, decide_eq_true_eq, Bool.not_eq_true, Bool.not_eq_false, if_true, if_false, Bool.false_eq_true, eq_self, true_and, and_true, reduceCtorEq, Bool.not_true, Bool.not_false, Bool.and_true, Bool.true_and, Bool.true_or, Bool.or_true, Bool.and_self, f1, fb, r1, r2, pm, as, tw, s0, repX_cls, repX_fields, sx0, sx1, sx2, sx3, sx4, sx5, sx6, sx7, sx8, sx9, sx10, sx11, sx12, sx13, sx14, sx15, sx16, sx17, sx18, sh, hl] | (refine And.intro (by omega) ?_))); (try omega))
theorem says : ∀ ns : List Int, ns.length ≤ 63 → m_law [.rol (ns.map .int)] = .ok (.bl true) [] := fun ns h => (law_ok ns h).eq
end Mir
namespace Mir
open PySem PySem.Spec L2 Hd
theorem sc_first_repeated : FnScope ["names", "seen", "name"] ["names"] (defScope s_first_repeated) := ⟨rfl, rfl, rfl, by decide +kernel, rfl, by decide +kernel, by decide +kernel⟩
theorem ok_first_repeated {P : Program} {w : World} {K : PySem.W.Frag} {mg : Str → Option Value} {base : Heap} {f : Addr} {fd : FuncData} (F : FunD K "first_repeated" "first_repeated" (defArgs s_first_repeated) (defBody s_first_repeated) (defScope s_first_repeated) [] [] f fd)  :
    FnG P w K mg base 1 f fd ["names"] [] m_first_repeated := by
  refine fng_of F sc_first_repeated (by decide) (by decide) ?_
  intro cdv A outer s H E hr hgd
  exact ⟨_, _, mb_cons (ms_asg (fun h => ps_set (i := 1) sc_first_repeated.nd rfl (by first | exact Or.inl rfl | exact Or.inr rfl) h) (me_dnew) (by decide))
      (mb_cons (ms_for (passes_of rfl) rfl (mi_seq (me_pv (pv 0))) (mg_name (pg_name (i := 2) sc_first_repeated.nd rfl (by first | exact Or.inl rfl | exact Or.inr rfl))) (mb_cons (ms_if (mc_bin (fun ha hb => pt_cmpR (op_din (u1 (room_64 hr))) ha hb (by rfl)) opm_din (me_pv (pv 2)) (me_pv (pv 1)) (by decide) (fun _ _ _ h => dinT_bl h)) (mb_one (ms_ret (me_pv (pv 2)))) (mb_nil))
      (mb_one (ms_dput (fun h1 h2 => ps_dput (u1 (room_64 hr)) (pv 1) h2 h1 rfl) (me_bl) (me_pv (pv 2)) (by decide)))) (by decide) (by decide))
      (mb_one (ms_ret (me_non)))), by decide⟩
theorem sc__law_store : FnScope ["_law_script", "_law_cell"] ["_law_script"] (defScope s__law_store) := ⟨rfl, rfl, rfl, by decide +kernel, rfl, by decide +kernel, by decide +kernel⟩
theorem ok__law_store {P : Program} {w : World} {K : PySem.W.Frag} {mg : Str → Option Value} {base : Heap} {f : Addr} {fd : FuncData} (F : FunD K "_law_store" "_law_store" (defArgs s__law_store) (defBody s__law_store) (defScope s__law_store) [] [] f fd) (n_int : mg "int" = none) :
    FnG P w K mg base 1 f fd ["_law_script"] [] m__law_store := by
  refine fng_of F sc__law_store (by decide) (by decide) ?_
  intro cdv A outer s H E hr hgd
  exact ⟨_, _, mb_one (ms_ret (me_lst (ma_cons (me_lc (own := [("_law_cell", 1)]) rfl sc__law_store.nd (blkOk_by (own := [("_law_cell", 1)]) (N := ["_law_script", "_law_cell"]) (sc := defScope s__law_store) (by decide +kernel)) (mi_seq (me_pv (pv 0))) (fun _ _ _ _ _ => mg_name (pg_name (i := 1) sc__law_store.nd rfl (by first | exact Or.inl rfl | exact Or.inr rfl))) (fun _ _ _ _ _ => pts_yes) (fun _ _ _ _ _ => me_cal (fun ha => pe_callTy call_int1 (by rfl) n_int (by decide +kernel) ha) cm_int (ma_cons (me_pv (pv 1)) (ma_nil) (by decide) (by rfl))) (by decide) (by decide)) (ma_cons (me_int) (ma_cons (me_int) (ma_cons (me_int) (ma_cons (me_int) (ma_nil) (by decide) (by rfl)) (by decide) (by rfl)) (by decide) (by rfl)) (by decide) (by rfl)) (by decide) (by rfl)))), by decide⟩
theorem sc__law_take : FnScope ["_law_store_here", "_law_many", "_law_first", "_law_second", "_law_cell", "_law_drawn"] ["_law_store_here", "_law_many"] (defScope s__law_take) := ⟨rfl, rfl, rfl, by decide +kernel, rfl, by decide +kernel, by decide +kernel⟩
theorem ok__law_take {P : Program} {w : World} {K : PySem.W.Frag} {mg : Str → Option Value} {base : Heap} {f : Addr} {fd : FuncData} (F : FunD K "_law_take" "_law_take" (defArgs s__law_take) (defBody s__law_take) (defScope s__law_take) [] [] f fd) (n_int : mg "int" = none) (n_len : mg "len" = none) :
    FnG P w K mg base 1 f fd ["_law_store_here", "_law_many"] [0] m__law_take := by
  refine fng_of F sc__law_take (by decide) (by decide) ?_
  intro cdv A outer s H E hr hgd
  exact ⟨_, _, mb_cons (ms_if (mc_bin (fun ha hb => pt_cmpR op_ltA ha hb (nomark _)) opm_lt (me_pv (pv 1)) (me_int) (by decide) ltT_bl) (mb_one (ms_ret (me_int))) (mb_nil))
      (mb_cons (ms_if (mw_pt (mw_and (mc_bin (fun ha hb => pt_cmpR (op_eqA (room_64 hr)) ha hb (nomark _)) opm_eq (me_ix (me_pv (pv 0)) (me_int) (by decide) (fun _ _ => rfl)) (me_int) (by decide) eqT_bl) (mw_and1 (mc_bin (fun ha hb => pt_cmpR op_ltA ha hb (nomark _)) opm_lt (me_ix (me_pv (pv 0)) (me_int) (by decide) (fun _ _ => rfl)) (me_cal (fun ha => pe_callB call_len (by rfl) n_len (by decide +kernel) ha) cm_len (ma_cons (me_ix (me_pv (pv 0)) (me_int) (by decide) (fun _ _ => rfl)) (ma_nil) (by decide) (by rfl))) (by decide) ltT_bl)))) (mb_cons (ms_asg (fun h => ps_set (i := 4) sc__law_take.nd rfl (by first | exact Or.inl rfl | exact Or.inr rfl) h) (me_settle (me_ix (me_ix (me_pv (pv 0)) (me_int) (by decide) (fun _ _ => rfl)) (me_ix (me_pv (pv 0)) (me_int) (by decide) (fun _ _ => rfl)) (by decide) (fun _ _ => rfl))) (by decide))
      (mb_cons (ms_setIx (fun h1 h2 => ps_asg h1 (pg_sub (pv 0) h2 set_list)) (me_bin (pe_op op_addA) opm_add (me_ix (me_pv (pv 0)) (me_int) (by decide) (fun _ _ => rfl)) (me_int) (by decide)) (me_int))
      (mb_cons (ms_setIx (fun h1 h2 => ps_asg h1 (pg_sub (pv 0) h2 set_list)) (me_bin (pe_op op_mod) opm_mod (me_cal (fun ha => pe_callTy call_int1 (by rfl) n_int (by decide +kernel) ha) cm_int (ma_cons (me_bin (pe_op op_addA) opm_add (me_bin (pe_op op_addA) opm_add (me_bin (pe_op op_mulA) opm_mul (me_ix (me_pv (pv 0)) (me_int) (by decide) (fun _ _ => rfl)) (me_int) (by decide)) (me_pv (pv 4)) (by decide)) (me_int) (by decide)) (ma_nil) (by decide) (by rfl))) (me_big me_int) (by decide)) (me_int))
      (mb_one (ms_if (mc_bin (fun ha hb => pt_cmpR op_geA ha hb (nomark _)) opm_ge (me_pv (pv 4)) (me_bin (pe_op op_pow) opm_pow (me_int) (me_int) (by decide)) (by decide) geT_bl) (mb_one (ms_setIx (fun h1 h2 => ps_asg h1 (pg_sub (pv 0) h2 set_list)) (me_settle (me_pv (pv 4))) (me_int))) (mb_nil)))))) (mb_nil))
      (mb_cons (ms_if (mc_bin (fun ha hb => pt_cmpR op_gtA ha hb (nomark _)) opm_gt (me_ix (me_pv (pv 0)) (me_int) (by decide) (fun _ _ => rfl)) (me_int) (by decide) gtT_bl) (mb_cons (ms_asg (fun h => ps_set (i := 5) sc__law_take.nd rfl (by first | exact Or.inl rfl | exact Or.inr rfl) h) (me_bin (pe_op op_mod) opm_mod (me_cal (fun ha => pe_callTy call_int1 (by rfl) n_int (by decide +kernel) ha) cm_int (ma_cons (me_ix (me_pv (pv 0)) (me_int) (by decide) (fun _ _ => rfl)) (ma_nil) (by decide) (by rfl))) (me_pv (pv 1)) (by decide)) (by decide))
      (mb_cons (ms_setIx (fun h1 h2 => ps_asg h1 (pg_sub (pv 0) h2 set_list)) (me_bin (pe_op op_fdiv) opm_div (me_ix (me_pv (pv 0)) (me_int) (by decide) (fun _ _ => rfl)) (me_pv (pv 1)) (by decide)) (me_int))
      (mb_one (ms_ret (me_pv (pv 5)))))) (mb_nil))
      (mb_cons (ms_setIx (fun h1 h2 => ps_asg h1 (pg_sub (pv 0) h2 set_list)) (me_bin (pe_op op_addA) opm_add (me_ix (me_pv (pv 0)) (me_int) (by decide) (fun _ _ => rfl)) (me_int) (by decide)) (me_int))
      (mb_cons (ms_asg (fun h => ps_set (i := 2) sc__law_take.nd rfl (by first | exact Or.inl rfl | exact Or.inr rfl) h) (me_bin (pe_op op_mod) opm_mod (me_cal (fun ha => pe_callTy call_int1 (by rfl) n_int (by decide +kernel) ha) cm_int (ma_cons (me_bin (pe_op op_addA) opm_add (me_bin (pe_op op_addA) opm_add (me_bin (pe_op op_mulA) opm_mul (me_ix (me_pv (pv 0)) (me_int) (by decide) (fun _ _ => rfl)) (me_int) (by decide)) (me_bin (pe_op op_mulA) opm_mul (me_ix (me_pv (pv 0)) (me_int) (by decide) (fun _ _ => rfl)) (me_big me_int) (by decide)) (by decide)) (me_int) (by decide)) (ma_nil) (by decide) (by rfl))) (me_big me_int) (by decide)) (by decide))
      (mb_cons (ms_asg (fun h => ps_set (i := 3) sc__law_take.nd rfl (by first | exact Or.inl rfl | exact Or.inr rfl) h) (me_bin (pe_op op_mod) opm_mod (me_cal (fun ha => pe_callTy call_int1 (by rfl) n_int (by decide +kernel) ha) cm_int (ma_cons (me_bin (pe_op op_addA) opm_add (me_bin (pe_op op_mulA) opm_mul (me_bin (pe_op op_addA) opm_add (me_pv (pv 2)) (me_int) (by decide)) (me_bin (pe_op op_addA) opm_add (me_bin (pe_op op_fdiv) opm_div (me_pv (pv 2)) (me_int) (by decide)) (me_int) (by decide)) (by decide)) (me_pv (pv 2)) (by decide)) (ma_nil) (by decide) (by rfl))) (me_big me_int) (by decide)) (by decide))
      (mb_one (ms_ret (me_bin (pe_op op_mod) opm_mod (me_cal (fun ha => pe_callTy call_int1 (by rfl) n_int (by decide +kernel) ha) cm_int (ma_cons (me_pv (pv 3)) (ma_nil) (by decide) (by rfl))) (me_pv (pv 1)) (by decide))))))))), by decide⟩
theorem sc__law_same : FnScope ["_law_told", "_law_right", "_law_pairs", "_law_k", "_law_pair", "_law_one_here", "_law_two", "_law_j"] ["_law_told", "_law_right"] (defScope s__law_same) := ⟨rfl, rfl, rfl, by decide +kernel, rfl, by decide +kernel, by decide +kernel⟩
theorem ok__law_same {P : Program} {w : World} {K : PySem.W.Frag} {mg : Str → Option Value} {base : Heap} {f : Addr} {fd : FuncData} (F : FunD K "_law_same" "_law_same" (defArgs s__law_same) (defBody s__law_same) (defScope s__law_same) [] [] f fd) (n_bool : mg "bool" = none) (n_int : mg "int" = none) (n_isinstance : mg "isinstance" = none) (n_len : mg "len" = none) (n_list : mg "list" = none) (n_range : mg "range" = none) (n_str : mg "str" = none) (n_tuple : mg "tuple" = none) :
    FnG P w K mg base 1 f fd ["_law_told", "_law_right"] [] m__law_same := by
  refine fng_of F sc__law_same (by decide) (by decide) ?_
  intro cdv A outer s H E hr hgd
  exact ⟨_, _, mb_cons (ms_asg (fun h => ps_set (i := 2) sc__law_same.nd rfl (by first | exact Or.inl rfl | exact Or.inr rfl) h) (me_lst (ma_cons (me_tup (ma_cons (me_settle (me_pv (pv 0))) (ma_cons (me_settle (me_pv (pv 1))) (ma_nil) (by decide) (by rfl)) (by decide) (by rfl))) (ma_nil) (by decide) (by rfl))) (by decide))
      (mb_cons (ms_for (passes_of rfl) rfl (mi_range1 (fun ha => pi_range1 (by rfl) n_range ha) (me_big me_int)) (mg_name (pg_name (i := 3) sc__law_same.nd rfl (by first | exact Or.inl rfl | exact Or.inr rfl))) (mb_cons (ms_if (mc_bin (fun ha hb => pt_cmpR (op_eqA (room_64 hr)) ha hb (nomark _)) opm_eq (me_cal (fun ha => pe_callB call_len (by rfl) n_len (by decide +kernel) ha) cm_len (ma_cons (me_pv (pv 2)) (ma_nil) (by decide) (by rfl))) (me_int) (by decide) eqT_bl) (mb_one (ms_ret (me_bl))) (mb_nil))
      (mb_cons (ms_asg (fun h => ps_set (i := 4) sc__law_same.nd rfl (by first | exact Or.inl rfl | exact Or.inr rfl) h) (me_pop (pe_bm0 PySem.F.plainAttrs_list PySem.F.slot_list_pop PySem.F.type_list_pop mt_pop (pv 2))) (by decide))
      (mb_cons (ms_asg (fun h => ps_set (i := 5) sc__law_same.nd rfl (by first | exact Or.inl rfl | exact Or.inr rfl) h) (me_settle (me_ix (me_pv (pv 4)) (me_int) (by decide) (fun _ _ => rfl))) (by decide))
      (mb_cons (ms_asg (fun h => ps_set (i := 6) sc__law_same.nd rfl (by first | exact Or.inl rfl | exact Or.inr rfl) h) (me_settle (me_ix (me_pv (pv 4)) (me_int) (by decide) (fun _ _ => rfl))) (by decide))
      (mb_one (ms_if (mw_pt (mw_or (mc_tru (me_isi (n := "tuple") (fun h => pe_callB call_isi (by rfl) n_isinstance (by decide +kernel) (pa_cons h (pa_cons (pe_bltn (by rfl) n_tuple (by decide +kernel) rfl) pa_nil))) (me_pv (pv 6))) (by intro _; rfl)) (mw_or1 (mc_tru (me_isi (n := "list") (fun h => pe_callB call_isi (by rfl) n_isinstance (by decide +kernel) (pa_cons h (pa_cons (pe_bltn (by rfl) n_list (by decide +kernel) rfl) pa_nil))) (me_pv (pv 6))) (by intro _; rfl))))) (mb_cons (ms_if (mw_pt (mw_or (mw_pt (mw_and (mc_tru (me_isi (n := "tuple") (fun h => pe_callB call_isi (by rfl) n_isinstance (by decide +kernel) (pa_cons h (pa_cons (pe_bltn (by rfl) n_tuple (by decide +kernel) rfl) pa_nil))) (me_pv (pv 6))) (by intro _; rfl)) (mw_and1 (mc_not (mc_tru (me_isi (n := "tuple") (fun h => pe_callB call_isi (by rfl) n_isinstance (by decide +kernel) (pa_cons h (pa_cons (pe_bltn (by rfl) n_tuple (by decide +kernel) rfl) pa_nil))) (me_pv (pv 5))) (by intro _; rfl)))))) (mw_or1 (mw_pt (mw_and (mc_tru (me_isi (n := "list") (fun h => pe_callB call_isi (by rfl) n_isinstance (by decide +kernel) (pa_cons h (pa_cons (pe_bltn (by rfl) n_list (by decide +kernel) rfl) pa_nil))) (me_pv (pv 6))) (by intro _; rfl)) (mw_and1 (mc_not (mc_tru (me_isi (n := "list") (fun h => pe_callB call_isi (by rfl) n_isinstance (by decide +kernel) (pa_cons h (pa_cons (pe_bltn (by rfl) n_list (by decide +kernel) rfl) pa_nil))) (me_pv (pv 5))) (by intro _; rfl))))))))) (mb_one (ms_ret (me_bl))) (mb_nil))
      (mb_cons (ms_if (mc_bin (fun ha hb => pt_cmpR (op_neA (room_64 hr)) ha hb (nomark _)) opm_ne (me_cal (fun ha => pe_callB call_len (by rfl) n_len (by decide +kernel) ha) cm_len (ma_cons (me_pv (pv 5)) (ma_nil) (by decide) (by rfl))) (me_cal (fun ha => pe_callB call_len (by rfl) n_len (by decide +kernel) ha) cm_len (ma_cons (me_pv (pv 6)) (ma_nil) (by decide) (by rfl))) (by decide) neT_bl) (mb_one (ms_ret (me_bl))) (mb_nil))
      (mb_one (ms_for (passes_of rfl) rfl (mi_range1 (fun ha => pi_range1 (by rfl) n_range ha) (me_cal (fun ha => pe_callB call_len (by rfl) n_len (by decide +kernel) ha) cm_len (ma_cons (me_pv (pv 6)) (ma_nil) (by decide) (by rfl)))) (mg_name (pg_name (i := 7) sc__law_same.nd rfl (by first | exact Or.inl rfl | exact Or.inr rfl))) (mb_one (ms_expr (me_append (fun h => pe_bm PySem.F.plainAttrs_list PySem.F.slot_list_append PySem.F.type_list_append mt_append (pv 2) (pa_cons h pa_nil)) (me_tup (ma_cons (me_settle (me_ix (me_pv (pv 5)) (me_pv (pv 7)) (by decide) (fun _ _ => rfl))) (ma_cons (me_settle (me_ix (me_pv (pv 6)) (me_pv (pv 7)) (by decide) (fun _ _ => rfl))) (ma_nil) (by decide) (by rfl)) (by decide) (by rfl)))) (by rfl))) (by decide) (by decide))))) (mb_one (ms_if (mc_tru (me_isi (n := "str") (fun h => pe_callB call_isi (by rfl) n_isinstance (by decide +kernel) (pa_cons h (pa_cons (pe_bltn (by rfl) n_str (by decide +kernel) rfl) pa_nil))) (me_pv (pv 6))) (by intro _; rfl)) (mb_one (ms_if (mw_pt (mw_or (mc_not (mc_tru (me_isi (n := "str") (fun h => pe_callB call_isi (by rfl) n_isinstance (by decide +kernel) (pa_cons h (pa_cons (pe_bltn (by rfl) n_str (by decide +kernel) rfl) pa_nil))) (me_pv (pv 5))) (by intro _; rfl))) (mw_or1 (mc_bin (fun ha hb => pt_cmpR (op_neA (room_64 hr)) ha hb (nomark _)) opm_ne (me_pv (pv 5)) (me_pv (pv 6)) (by decide) neT_bl)))) (mb_one (ms_ret (me_bl))) (mb_nil))) (mb_one (ms_if (mc_bin (fun ha hb => pt_cmpR op_isA ha hb (nomark _)) opm_is (me_pv (pv 6)) (me_non) (by decide) isT_bl) (mb_one (ms_if (mc_bin (fun ha hb => pt_cmpR op_isnA ha hb (nomark _)) opm_isn (me_pv (pv 5)) (me_non) (by decide) isnT_bl) (mb_one (ms_ret (me_bl))) (mb_nil))) (mb_one (ms_if (mw_pt (mw_or (mc_bin (fun ha hb => pt_cmpR op_isA ha hb (nomark _)) opm_is (me_pv (pv 6)) (me_bl) (by decide) isT_bl) (mw_or1 (mc_bin (fun ha hb => pt_cmpR op_isA ha hb (nomark _)) opm_is (me_pv (pv 6)) (me_bl) (by decide) isT_bl)))) (mb_one (ms_if (mw_pt (mw_or (mw_pt (mw_and (mc_bin (fun ha hb => pt_cmpR op_isA ha hb (nomark _)) opm_is (me_pv (pv 6)) (me_bl) (by decide) isT_bl) (mw_and1 (mc_bin (fun ha hb => pt_cmpR op_isnA ha hb (nomark _)) opm_isn (me_pv (pv 5)) (me_bl) (by decide) isnT_bl)))) (mw_or1 (mw_pt (mw_and (mc_bin (fun ha hb => pt_cmpR op_isA ha hb (nomark _)) opm_is (me_pv (pv 6)) (me_bl) (by decide) isT_bl) (mw_and1 (mc_bin (fun ha hb => pt_cmpR op_isnA ha hb (nomark _)) opm_isn (me_pv (pv 5)) (me_bl) (by decide) isnT_bl))))))) (mb_one (ms_ret (me_bl))) (mb_nil))) (mb_one (ms_if (mw_pt (mw_or (mc_not (mc_tru (me_isi (n := "int") (fun h => pe_callB call_isi (by rfl) n_isinstance (by decide +kernel) (pa_cons h (pa_cons (pe_bltn (by rfl) n_int (by decide +kernel) rfl) pa_nil))) (me_pv (pv 5))) (by intro _; rfl))) (mw_or (mc_tru (me_isi (n := "bool") (fun h => pe_callB call_isi (by rfl) n_isinstance (by decide +kernel) (pa_cons h (pa_cons (pe_bltn (by rfl) n_bool (by decide +kernel) rfl) pa_nil))) (me_pv (pv 5))) (by intro _; rfl)) (mw_or1 (mc_bin (fun ha hb => pt_cmpR (op_neA (room_64 hr)) ha hb (nomark _)) opm_ne (me_pv (pv 5)) (me_pv (pv 6)) (by decide) neT_bl))))) (mb_one (ms_ret (me_bl))) (mb_nil))))))))))))))) (by decide) (by decide))
      (mb_one (ms_ret (me_bin (fun ha hb => pe_cmpR (op_eqA (room_64 hr)) ha hb (nomark _)) opm_eq (me_cal (fun ha => pe_callB call_len (by rfl) n_len (by decide +kernel) ha) cm_len (ma_cons (me_pv (pv 2)) (ma_nil) (by decide) (by rfl))) (me_int) (by decide))))), by decide⟩
theorem okh__law_same {P : Program} {w : World} {K : PySem.W.Frag} {mg : Str → Option Value} {base : Heap} {f : Addr} {fd : FuncData} (F : FunD K "_law_same" "_law_same" (defArgs s__law_same) (defBody s__law_same) (defScope s__law_same) [] [] f fd) (n_bool : mg "bool" = none) (n_int : mg "int" = none) (n_isinstance : mg "isinstance" = none) (n_len : mg "len" = none) (n_list : mg "list" = none) (n_range : mg "range" = none) (n_str : mg "str" = none) (n_tuple : mg "tuple" = none) :
    FnY P w K mg base 1 f fd ["_law_told", "_law_right"] [] m__law_same := by
  refine fny_of F sc__law_same (by decide) (by decide) ?_
  intro cdv A outer s H p hr hgd hc
  exact ⟨_, _, mb_cons (ms_asg (fun h => ps_set (i := 2) sc__law_same.nd rfl (by first | exact Or.inl rfl | exact Or.inr rfl) h) (me_lst (ma_cons (me_tup (ma_cons (me_settle (me_pv (pv 0))) (ma_cons (me_settle (me_pv (pv 1))) (ma_nil) (by decide) (by rfl)) (by decide) (by rfl))) (ma_nil) (by decide) (by rfl))) (by decide))
      (mb_cons (ms_forH (passes_of rfl) hc (mi_range1H (fun ha => L2H.pi_range1H (by rfl) n_range ha) (me_big me_int)) (mg_name (pg_name (i := 3) sc__law_same.nd rfl (by first | exact Or.inl rfl | exact Or.inr rfl))) (mb_cons (ms_if (mc_bin (fun ha hb => pt_cmpR (op_eqA (roomH_64 hr)) ha hb (nomark _)) opm_eq (me_cal (fun ha => pe_callB call_len (by rfl) n_len (by decide +kernel) ha) cm_len (ma_cons (me_pv (pv 2)) (ma_nil) (by decide) (by rfl))) (me_int) (by decide) eqT_bl) (mb_one (ms_ret (me_bl))) (mb_nil))
      (mb_cons (ms_asg (fun h => ps_set (i := 4) sc__law_same.nd rfl (by first | exact Or.inl rfl | exact Or.inr rfl) h) (me_pop (pe_bm0 PySem.F.plainAttrs_list PySem.F.slot_list_pop PySem.F.type_list_pop mt_pop (pv 2))) (by decide))
      (mb_cons (ms_asg (fun h => ps_set (i := 5) sc__law_same.nd rfl (by first | exact Or.inl rfl | exact Or.inr rfl) h) (me_settle (me_ix (me_pv (pv 4)) (me_int) (by decide) (fun _ _ => rfl))) (by decide))
      (mb_cons (ms_asg (fun h => ps_set (i := 6) sc__law_same.nd rfl (by first | exact Or.inl rfl | exact Or.inr rfl) h) (me_settle (me_ix (me_pv (pv 4)) (me_int) (by decide) (fun _ _ => rfl))) (by decide))
      (mb_one (ms_if (mw_pt (mw_or (mc_tru (me_isi (n := "tuple") (fun h => pe_callB call_isi (by rfl) n_isinstance (by decide +kernel) (pa_cons h (pa_cons (pe_bltn (by rfl) n_tuple (by decide +kernel) rfl) pa_nil))) (me_pv (pv 6))) (by intro _; rfl)) (mw_or1 (mc_tru (me_isi (n := "list") (fun h => pe_callB call_isi (by rfl) n_isinstance (by decide +kernel) (pa_cons h (pa_cons (pe_bltn (by rfl) n_list (by decide +kernel) rfl) pa_nil))) (me_pv (pv 6))) (by intro _; rfl))))) (mb_cons (ms_if (mw_pt (mw_or (mw_pt (mw_and (mc_tru (me_isi (n := "tuple") (fun h => pe_callB call_isi (by rfl) n_isinstance (by decide +kernel) (pa_cons h (pa_cons (pe_bltn (by rfl) n_tuple (by decide +kernel) rfl) pa_nil))) (me_pv (pv 6))) (by intro _; rfl)) (mw_and1 (mc_not (mc_tru (me_isi (n := "tuple") (fun h => pe_callB call_isi (by rfl) n_isinstance (by decide +kernel) (pa_cons h (pa_cons (pe_bltn (by rfl) n_tuple (by decide +kernel) rfl) pa_nil))) (me_pv (pv 5))) (by intro _; rfl)))))) (mw_or1 (mw_pt (mw_and (mc_tru (me_isi (n := "list") (fun h => pe_callB call_isi (by rfl) n_isinstance (by decide +kernel) (pa_cons h (pa_cons (pe_bltn (by rfl) n_list (by decide +kernel) rfl) pa_nil))) (me_pv (pv 6))) (by intro _; rfl)) (mw_and1 (mc_not (mc_tru (me_isi (n := "list") (fun h => pe_callB call_isi (by rfl) n_isinstance (by decide +kernel) (pa_cons h (pa_cons (pe_bltn (by rfl) n_list (by decide +kernel) rfl) pa_nil))) (me_pv (pv 5))) (by intro _; rfl))))))))) (mb_one (ms_ret (me_bl))) (mb_nil))
      (mb_cons (ms_if (mc_bin (fun ha hb => pt_cmpR (op_neA (roomH_64 hr)) ha hb (nomark _)) opm_ne (me_cal (fun ha => pe_callB call_len (by rfl) n_len (by decide +kernel) ha) cm_len (ma_cons (me_pv (pv 5)) (ma_nil) (by decide) (by rfl))) (me_cal (fun ha => pe_callB call_len (by rfl) n_len (by decide +kernel) ha) cm_len (ma_cons (me_pv (pv 6)) (ma_nil) (by decide) (by rfl))) (by decide) neT_bl) (mb_one (ms_ret (me_bl))) (mb_nil))
      (mb_one (ms_forH (passes_of rfl) hc (mi_range1H (fun ha => L2H.pi_range1H (by rfl) n_range ha) (me_cal (fun ha => pe_callB call_len (by rfl) n_len (by decide +kernel) ha) cm_len (ma_cons (me_pv (pv 6)) (ma_nil) (by decide) (by rfl)))) (mg_name (pg_name (i := 7) sc__law_same.nd rfl (by first | exact Or.inl rfl | exact Or.inr rfl))) (mb_one (ms_expr (me_append (fun h => pe_bm PySem.F.plainAttrs_list PySem.F.slot_list_append PySem.F.type_list_append mt_append (pv 2) (pa_cons h pa_nil)) (me_tup (ma_cons (me_settle (me_ix (me_pv (pv 5)) (me_pv (pv 7)) (by decide) (fun _ _ => rfl))) (ma_cons (me_settle (me_ix (me_pv (pv 6)) (me_pv (pv 7)) (by decide) (fun _ _ => rfl))) (ma_nil) (by decide) (by rfl)) (by decide) (by rfl)))) (by rfl))) (by decide) (by decide))))) (mb_one (ms_if (mc_tru (me_isi (n := "str") (fun h => pe_callB call_isi (by rfl) n_isinstance (by decide +kernel) (pa_cons h (pa_cons (pe_bltn (by rfl) n_str (by decide +kernel) rfl) pa_nil))) (me_pv (pv 6))) (by intro _; rfl)) (mb_one (ms_if (mw_pt (mw_or (mc_not (mc_tru (me_isi (n := "str") (fun h => pe_callB call_isi (by rfl) n_isinstance (by decide +kernel) (pa_cons h (pa_cons (pe_bltn (by rfl) n_str (by decide +kernel) rfl) pa_nil))) (me_pv (pv 5))) (by intro _; rfl))) (mw_or1 (mc_bin (fun ha hb => pt_cmpR (op_neA (roomH_64 hr)) ha hb (nomark _)) opm_ne (me_pv (pv 5)) (me_pv (pv 6)) (by decide) neT_bl)))) (mb_one (ms_ret (me_bl))) (mb_nil))) (mb_one (ms_if (mc_bin (fun ha hb => pt_cmpR op_isA ha hb (nomark _)) opm_is (me_pv (pv 6)) (me_non) (by decide) isT_bl) (mb_one (ms_if (mc_bin (fun ha hb => pt_cmpR op_isnA ha hb (nomark _)) opm_isn (me_pv (pv 5)) (me_non) (by decide) isnT_bl) (mb_one (ms_ret (me_bl))) (mb_nil))) (mb_one (ms_if (mw_pt (mw_or (mc_bin (fun ha hb => pt_cmpR op_isA ha hb (nomark _)) opm_is (me_pv (pv 6)) (me_bl) (by decide) isT_bl) (mw_or1 (mc_bin (fun ha hb => pt_cmpR op_isA ha hb (nomark _)) opm_is (me_pv (pv 6)) (me_bl) (by decide) isT_bl)))) (mb_one (ms_if (mw_pt (mw_or (mw_pt (mw_and (mc_bin (fun ha hb => pt_cmpR op_isA ha hb (nomark _)) opm_is (me_pv (pv 6)) (me_bl) (by decide) isT_bl) (mw_and1 (mc_bin (fun ha hb => pt_cmpR op_isnA ha hb (nomark _)) opm_isn (me_pv (pv 5)) (me_bl) (by decide) isnT_bl)))) (mw_or1 (mw_pt (mw_and (mc_bin (fun ha hb => pt_cmpR op_isA ha hb (nomark _)) opm_is (me_pv (pv 6)) (me_bl) (by decide) isT_bl) (mw_and1 (mc_bin (fun ha hb => pt_cmpR op_isnA ha hb (nomark _)) opm_isn (me_pv (pv 5)) (me_bl) (by decide) isnT_bl))))))) (mb_one (ms_ret (me_bl))) (mb_nil))) (mb_one (ms_if (mw_pt (mw_or (mc_not (mc_tru (me_isi (n := "int") (fun h => pe_callB call_isi (by rfl) n_isinstance (by decide +kernel) (pa_cons h (pa_cons (pe_bltn (by rfl) n_int (by decide +kernel) rfl) pa_nil))) (me_pv (pv 5))) (by intro _; rfl))) (mw_or (mc_tru (me_isi (n := "bool") (fun h => pe_callB call_isi (by rfl) n_isinstance (by decide +kernel) (pa_cons h (pa_cons (pe_bltn (by rfl) n_bool (by decide +kernel) rfl) pa_nil))) (me_pv (pv 5))) (by intro _; rfl)) (mw_or1 (mc_bin (fun ha hb => pt_cmpR (op_neA (roomH_64 hr)) ha hb (nomark _)) opm_ne (me_pv (pv 5)) (me_pv (pv 6)) (by decide) neT_bl))))) (mb_one (ms_ret (me_bl))) (mb_nil))))))))))))))) (by decide) (by decide))
      (mb_one (ms_ret (me_bin (fun ha hb => pe_cmpR (op_eqA (roomH_64 hr)) ha hb (nomark _)) opm_eq (me_cal (fun ha => pe_callB call_len (by rfl) n_len (by decide +kernel) ha) cm_len (ma_cons (me_pv (pv 2)) (ma_nil) (by decide) (by rfl))) (me_int) (by decide))))), by decide⟩
theorem sc__law_error_more : FnScope ["_law_e", "_law_found"] ["_law_e", "_law_found"] (defScope s__law_error_more) := ⟨rfl, rfl, rfl, by decide +kernel, rfl, by decide +kernel, by decide +kernel⟩
theorem ok__law_error_more {P : Program} {w : World} {K : PySem.W.Frag} {mg : Str → Option Value} {base : Heap} {f : Addr} {fd : FuncData} (F : FunD K "_law_error_more" "_law_error_more" (defArgs s__law_error_more) (defBody s__law_error_more) (defScope s__law_error_more) [] [] f fd) (n_ValueError : mg "ValueError" = none) (n_isinstance : mg "isinstance" = none) (n_len : mg "len" = none) (xf : XF K mg xtab) :
    FnX P w K mg base 1 f fd ["_law_e", "_law_found"] [1] m__law_error_more := by
  refine fnx_of F sc__law_error_more (by decide) (by decide) ?_
  intro cdv A outer s H p hr hgd cls d x P
  exact ⟨_, _, mb_cons (ms_if (mc_tru (me_isx (yn := "BadText") (fl := ["at"]) rfl P xf (by decide +kernel) (pv 0) (fun _ mD => pe_glob (by rfl) mD rfl) (fun h1 h2 => pe_callB (call_isZ P) (by rfl) n_isinstance (by decide +kernel) (pa_cons h1 (pa_cons h2 pa_nil)))) (by intro _; rfl)) (mb_one (ms_expr (me_append (fun h => pe_bm PySem.F.plainAttrs_list PySem.F.slot_list_append PySem.F.type_list_append mt_append (pv 1) (pa_cons h pa_nil)) (me_tup (ma_cons (me_str) (ma_cons (me_xf rfl P xf (pv 0)) (ma_nil) (by decide) (by rfl)) (by decide) (by rfl)))) (by rfl))) (mb_nil))
      (mb_cons (ms_if (mc_tru (me_isx (yn := "NoRun") (fl := ["at", "cause"]) rfl P xf (by decide +kernel) (pv 0) (fun _ mD => pe_glob (by rfl) mD rfl) (fun h1 h2 => pe_callB (call_isZ P) (by rfl) n_isinstance (by decide +kernel) (pa_cons h1 (pa_cons h2 pa_nil)))) (by intro _; rfl)) (mb_one (ms_expr (me_append (fun h => pe_bm PySem.F.plainAttrs_list PySem.F.slot_list_append PySem.F.type_list_append mt_append (pv 1) (pa_cons h pa_nil)) (me_tup (ma_cons (me_str) (ma_cons (me_xf rfl P xf (pv 0)) (ma_cons (me_xf rfl P xf (pv 0)) (ma_nil) (by decide) (by rfl)) (by decide) (by rfl)) (by decide) (by rfl)))) (by rfl))) (mb_nil))
      (mb_cons (ms_if (mc_tru (me_isx (yn := "NothingLeft") (fl := []) rfl P xf (by decide +kernel) (pv 0) (fun _ mD => pe_glob (by rfl) mD rfl) (fun h1 h2 => pe_callB (call_isZ P) (by rfl) n_isinstance (by decide +kernel) (pa_cons h1 (pa_cons h2 pa_nil)))) (by intro _; rfl)) (mb_one (ms_expr (me_append (fun h => pe_bm PySem.F.plainAttrs_list PySem.F.slot_list_append PySem.F.type_list_append mt_append (pv 1) (pa_cons h pa_nil)) (me_tup (ma_cons (me_str) (ma_nil) (by decide) (by rfl)))) (by rfl))) (mb_nil))
      (mb_cons (ms_if (mc_tru (me_isx (yn := "BadClaim") (fl := []) rfl P xf (by decide +kernel) (pv 0) (fun _ mD => pe_glob (by rfl) mD rfl) (fun h1 h2 => pe_callB (call_isZ P) (by rfl) n_isinstance (by decide +kernel) (pa_cons h1 (pa_cons h2 pa_nil)))) (by intro _; rfl)) (mb_one (ms_expr (me_append (fun h => pe_bm PySem.F.plainAttrs_list PySem.F.slot_list_append PySem.F.type_list_append mt_append (pv 1) (pa_cons h pa_nil)) (me_tup (ma_cons (me_str) (ma_nil) (by decide) (by rfl)))) (by rfl))) (mb_nil))
      (mb_cons (ms_if (mc_tru (me_isx (yn := "BadRow") (fl := ["index"]) rfl P xf (by decide +kernel) (pv 0) (fun _ mD => pe_glob (by rfl) mD rfl) (fun h1 h2 => pe_callB (call_isZ P) (by rfl) n_isinstance (by decide +kernel) (pa_cons h1 (pa_cons h2 pa_nil)))) (by intro _; rfl)) (mb_one (ms_expr (me_append (fun h => pe_bm PySem.F.plainAttrs_list PySem.F.slot_list_append PySem.F.type_list_append mt_append (pv 1) (pa_cons h pa_nil)) (me_tup (ma_cons (me_str) (ma_cons (me_xf rfl P xf (pv 0)) (ma_nil) (by decide) (by rfl)) (by decide) (by rfl)))) (by rfl))) (mb_nil))
      (mb_cons (ms_if (mw_pt (mw_or (mc_bin (fun ha hb => pt_cmpR (op_neA (roomH_64 hr)) ha hb (nomark _)) opm_ne (me_cal (fun ha => pe_callB call_len (by rfl) n_len (by decide +kernel) ha) cm_len (ma_cons (me_pv (pv 1)) (ma_nil) (by decide) (by rfl))) (me_int) (by decide) neT_bl) (mw_or (mc_not (mc_tru (me_isx (yn := "TurnError") (fl := []) rfl P xf (by decide +kernel) (pv 0) (fun _ mD => pe_glob (by rfl) mD rfl) (fun h1 h2 => pe_callB (call_isZ P) (by rfl) n_isinstance (by decide +kernel) (pa_cons h1 (pa_cons h2 pa_nil)))) (by intro _; rfl))) (mw_or1 (mc_not (mc_tru (me_isxVE rfl P xf (pv 0) (pe_bltn (by rfl) n_ValueError (by decide +kernel) rfl) (fun h1 h2 => pe_callB (call_isZ P) (by rfl) n_isinstance (by decide +kernel) (pa_cons h1 (pa_cons h2 pa_nil)))) (by intro _; rfl))))))) (mb_one (ms_ret (me_tup (ma_cons (me_str) (ma_cons (me_cal (fun ha => pe_callB call_len (by rfl) n_len (by decide +kernel) ha) cm_len (ma_cons (me_pv (pv 1)) (ma_nil) (by decide) (by rfl))) (ma_nil) (by decide) (by rfl)) (by decide) (by rfl))))) (mb_nil))
      (mb_one (ms_ret (me_settle (me_ix (me_pv (pv 1)) (me_int) (by decide) (fun _ _ => rfl)))))))))), by decide⟩
theorem sc__law_twice : FnScope ["_law_row", "_law_k"] ["_law_row"] (defScope s__law_twice) := ⟨rfl, rfl, rfl, by decide +kernel, rfl, by decide +kernel, by decide +kernel⟩
theorem ok__law_twice {P : Program} {w : World} {K : PySem.W.Frag} {mg : Str → Option Value} {base : Heap} {f : Addr} {fd : FuncData} (F : FunD K "_law_twice" "_law_twice" (defArgs s__law_twice) (defBody s__law_twice) (defScope s__law_twice) [] [] f fd) (n_len : mg "len" = none) (n_range : mg "range" = none) :
    FnG P w K mg base 1 f fd ["_law_row"] [] m__law_twice := by
  refine fng_of F sc__law_twice (by decide) (by decide) ?_
  intro cdv A outer s H E hr hgd
  exact ⟨_, _, mb_cons (ms_for (passes_of rfl) rfl (mi_range1 (fun ha => pi_range1 (by rfl) n_range ha) (me_cal (fun ha => pe_callB call_len (by rfl) n_len (by decide +kernel) ha) cm_len (ma_cons (me_pv (pv 0)) (ma_nil) (by decide) (by rfl)))) (mg_name (pg_name (i := 1) sc__law_twice.nd rfl (by first | exact Or.inl rfl | exact Or.inr rfl))) (mb_one (ms_if (mc_bin (fun ha hb => pt_cmpR (op_inA (room_65 hr)) ha hb (by rfl)) opm_in (me_ix (me_pv (pv 0)) (me_pv (pv 1)) (by decide) (fun _ _ => rfl)) (me_slice (me_pv (pv 0)) (mo_none) (mo_some (me_pv (pv 1))) (by decide)) (by decide) inT_bl) (mb_one (ms_ret (me_ix (me_pv (pv 0)) (me_pv (pv 1)) (by decide) (fun _ _ => rfl)))) (mb_nil))) (by decide) (by decide))
      (mb_one (ms_ret (me_non))), by decide⟩
theorem okh__law_twice {P : Program} {w : World} {K : PySem.W.Frag} {mg : Str → Option Value} {base : Heap} {f : Addr} {fd : FuncData} (F : FunD K "_law_twice" "_law_twice" (defArgs s__law_twice) (defBody s__law_twice) (defScope s__law_twice) [] [] f fd) (n_len : mg "len" = none) (n_range : mg "range" = none) :
    FnY P w K mg base 1 f fd ["_law_row"] [] m__law_twice := by
  refine fny_of F sc__law_twice (by decide) (by decide) ?_
  intro cdv A outer s H p hr hgd hc
  exact ⟨_, _, mb_cons (ms_forH (passes_of rfl) hc (mi_range1H (fun ha => L2H.pi_range1H (by rfl) n_range ha) (me_cal (fun ha => pe_callB call_len (by rfl) n_len (by decide +kernel) ha) cm_len (ma_cons (me_pv (pv 0)) (ma_nil) (by decide) (by rfl)))) (mg_name (pg_name (i := 1) sc__law_twice.nd rfl (by first | exact Or.inl rfl | exact Or.inr rfl))) (mb_one (ms_if (mc_bin (fun ha hb => pt_cmpR (op_inA (roomH_65 hr)) ha hb (by rfl)) opm_in (me_ix (me_pv (pv 0)) (me_pv (pv 1)) (by decide) (fun _ _ => rfl)) (me_slice (me_pv (pv 0)) (mo_none) (mo_some (me_pv (pv 1))) (by decide)) (by decide) inT_bl) (mb_one (ms_ret (me_ix (me_pv (pv 0)) (me_pv (pv 1)) (by decide) (fun _ _ => rfl)))) (mb_nil))) (by decide) (by decide))
      (mb_one (ms_ret (me_non))), by decide⟩
theorem sc__law_in_order : FnScope ["_law_told", "_law_row", "_law_k"] ["_law_told", "_law_row"] (defScope s__law_in_order) := ⟨rfl, rfl, rfl, by decide +kernel, rfl, by decide +kernel, by decide +kernel⟩
theorem ok__law_in_order {P : Program} {w : World} {K : PySem.W.Frag} {mg : Str → Option Value} {base : Heap} {f : Addr} {fd : FuncData} (F : FunD K "_law_in_order" "_law_in_order" (defArgs s__law_in_order) (defBody s__law_in_order) (defScope s__law_in_order) [] [] f fd) (n_isinstance : mg "isinstance" = none) (n_len : mg "len" = none) (n_list : mg "list" = none) (n_range : mg "range" = none) (n_str : mg "str" = none) :
    FnG P w K mg base 1 f fd ["_law_told", "_law_row"] [] m__law_in_order := by
  refine fng_of F sc__law_in_order (by decide) (by decide) ?_
  intro cdv A outer s H E hr hgd
  exact ⟨_, _, mb_cons (ms_if (mw_pt (mw_or (mc_not (mc_tru (me_isi (n := "list") (fun h => pe_callB call_isi (by rfl) n_isinstance (by decide +kernel) (pa_cons h (pa_cons (pe_bltn (by rfl) n_list (by decide +kernel) rfl) pa_nil))) (me_pv (pv 0))) (by intro _; rfl))) (mw_or1 (mc_bin (fun ha hb => pt_cmpR (op_neA (room_64 hr)) ha hb (nomark _)) opm_ne (me_cal (fun ha => pe_callB call_len (by rfl) n_len (by decide +kernel) ha) cm_len (ma_cons (me_pv (pv 0)) (ma_nil) (by decide) (by rfl))) (me_cal (fun ha => pe_callB call_len (by rfl) n_len (by decide +kernel) ha) cm_len (ma_cons (me_pv (pv 1)) (ma_nil) (by decide) (by rfl))) (by decide) neT_bl)))) (mb_one (ms_ret (me_bl))) (mb_nil))
      (mb_cons (ms_for (passes_of rfl) rfl (mi_range1 (fun ha => pi_range1 (by rfl) n_range ha) (me_cal (fun ha => pe_callB call_len (by rfl) n_len (by decide +kernel) ha) cm_len (ma_cons (me_pv (pv 0)) (ma_nil) (by decide) (by rfl)))) (mg_name (pg_name (i := 2) sc__law_in_order.nd rfl (by first | exact Or.inl rfl | exact Or.inr rfl))) (mb_cons (ms_if (mw_pt (mw_or (mc_not (mc_tru (me_isi (n := "str") (fun h => pe_callB call_isi (by rfl) n_isinstance (by decide +kernel) (pa_cons h (pa_cons (pe_bltn (by rfl) n_str (by decide +kernel) rfl) pa_nil))) (me_ix (me_pv (pv 0)) (me_pv (pv 2)) (by decide) (fun _ _ => rfl))) (by intro _; rfl))) (mw_or1 (mc_bin (fun ha hb => pt_cmpR (op_ninA (room_65 hr)) ha hb (by rfl)) opm_nin (me_ix (me_pv (pv 0)) (me_pv (pv 2)) (by decide) (fun _ _ => rfl)) (me_pv (pv 1)) (by decide) ninT_bl)))) (mb_one (ms_ret (me_bl))) (mb_nil))
      (mb_one (ms_if (mw_pt (mw_and (mc_bin (fun ha hb => pt_cmpR op_gtA ha hb (nomark _)) opm_gt (me_pv (pv 2)) (me_int) (by decide) gtT_bl) (mw_and1 (mc_not (mc_bin (fun ha hb => pt_cmpR op_ltA ha hb (nomark _)) opm_lt (me_ix (me_pv (pv 0)) (me_bin (pe_op op_sub) opm_sub (me_pv (pv 2)) (me_int) (by decide)) (by decide) (fun _ _ => rfl)) (me_ix (me_pv (pv 0)) (me_pv (pv 2)) (by decide) (fun _ _ => rfl)) (by decide) ltT_bl))))) (mb_one (ms_ret (me_bl))) (mb_nil)))) (by decide) (by decide))
      (mb_one (ms_ret (me_bl)))), by decide⟩
theorem sc__law_range : FnScope ["_law_store_here", "_law_low", "_law_high"] ["_law_store_here", "_law_low", "_law_high"] (defScope s__law_range) := ⟨rfl, rfl, rfl, by decide +kernel, rfl, by decide +kernel, by decide +kernel⟩
theorem ok__law_range {P : Program} {w : World} {K : PySem.W.Frag} {mg : Str → Option Value} {base : Heap} {f : Addr} {fd : FuncData} (F : FunD K "_law_range" "_law_range" (defArgs s__law_range) (defBody s__law_range) (defScope s__law_range) [] [] f fd) (c__law_take : CalOk P w K mg base s__law_take 1 "_law_take" ["_law_store_here", "_law_many"] [0] m__law_take) :
    FnG P w K mg base 2 f fd ["_law_store_here", "_law_low", "_law_high"] [0] m__law_range := by
  refine fng_of F sc__law_range (by decide) (by decide) ?_
  intro cdv A outer s H E hr hgd
  exact ⟨_, _, mb_one (ms_ret (me_bin (pe_op op_addA) opm_add (me_pv (pv 1)) (me_callC c__law_take (fun _ _ _ _ _ _ _ us hl => match us, hl with | [_, _], _ => rfl) hr (by decide) hgd (by rfl) (L2N.takes_of rfl rfl rfl rfl) (mx_s (pv 0) (mx_v (me_bin (pe_op op_addA) opm_add (me_bin (pe_op op_sub) opm_sub (me_pv (pv 2)) (me_pv (pv 1)) (by decide)) (me_int) (by decide)) (mx_nil) (by decide))) rfl rfl (by decide) (by decide)) (by decide))), by decide⟩
theorem sc__law_seldom : FnScope ["_law_store_here", "_law_many"] ["_law_store_here", "_law_many"] (defScope s__law_seldom) := ⟨rfl, rfl, rfl, by decide +kernel, rfl, by decide +kernel, by decide +kernel⟩
theorem ok__law_seldom {P : Program} {w : World} {K : PySem.W.Frag} {mg : Str → Option Value} {base : Heap} {f : Addr} {fd : FuncData} (F : FunD K "_law_seldom" "_law_seldom" (defArgs s__law_seldom) (defBody s__law_seldom) (defScope s__law_seldom) [] [] f fd) (c__law_take : CalOk P w K mg base s__law_take 1 "_law_take" ["_law_store_here", "_law_many"] [0] m__law_take) :
    FnG P w K mg base 2 f fd ["_law_store_here", "_law_many"] [0] m__law_seldom := by
  refine fng_of F sc__law_seldom (by decide) (by decide) ?_
  intro cdv A outer s H E hr hgd
  exact ⟨_, _, mb_one (ms_ret (me_bin (fun ha hb => pe_cmpR (op_eqA (room_64 hr)) ha hb (nomark _)) opm_eq (me_callC c__law_take (fun _ _ _ _ _ _ _ us hl => match us, hl with | [_, _], _ => rfl) hr (by decide) hgd (by rfl) (L2N.takes_of rfl rfl rfl rfl) (mx_s (pv 0) (mx_v (me_pv (pv 1)) (mx_nil) (by decide))) rfl rfl (by decide) (by decide)) (me_int) (by decide))), by decide⟩
theorem sc__law_one : FnScope ["_law_store_here", "_law_row"] ["_law_store_here", "_law_row"] (defScope s__law_one) := ⟨rfl, rfl, rfl, by decide +kernel, rfl, by decide +kernel, by decide +kernel⟩
theorem ok__law_one {P : Program} {w : World} {K : PySem.W.Frag} {mg : Str → Option Value} {base : Heap} {f : Addr} {fd : FuncData} (F : FunD K "_law_one" "_law_one" (defArgs s__law_one) (defBody s__law_one) (defScope s__law_one) [] [] f fd) (c__law_take : CalOk P w K mg base s__law_take 1 "_law_take" ["_law_store_here", "_law_many"] [0] m__law_take) (n_len : mg "len" = none) :
    FnG P w K mg base 2 f fd ["_law_store_here", "_law_row"] [0] m__law_one := by
  refine fng_of F sc__law_one (by decide) (by decide) ?_
  intro cdv A outer s H E hr hgd
  exact ⟨_, _, mb_one (ms_ret (me_ix (me_pv (pv 1)) (me_callC c__law_take (fun _ _ _ _ _ _ _ us hl => match us, hl with | [_, _], _ => rfl) hr (by decide) hgd (by rfl) (L2N.takes_of rfl rfl rfl rfl) (mx_s (pv 0) (mx_v (me_cal (fun ha => pe_callB call_len (by rfl) n_len (by decide +kernel) ha) cm_len (ma_cons (me_pv (pv 1)) (ma_nil) (by decide) (by rfl))) (mx_nil) (by decide))) rfl rfl (by decide) (by decide)) (by decide) (fun _ _ => rfl))), by decide⟩
theorem sc__law_seq : FnScope ["_law_store_here", "_law_row"] ["_law_store_here", "_law_row"] (defScope s__law_seq) := ⟨rfl, rfl, rfl, by decide +kernel, rfl, by decide +kernel, by decide +kernel⟩
theorem ok__law_seq {P : Program} {w : World} {K : PySem.W.Frag} {mg : Str → Option Value} {base : Heap} {f : Addr} {fd : FuncData} (F : FunD K "_law_seq" "_law_seq" (defArgs s__law_seq) (defBody s__law_seq) (defScope s__law_seq) [] [] f fd) (c__law_take : CalOk P w K mg base s__law_take 1 "_law_take" ["_law_store_here", "_law_many"] [0] m__law_take) (n_list : mg "list" = none) (n_tuple : mg "tuple" = none) :
    FnG P w K mg base 2 f fd ["_law_store_here", "_law_row"] [0] m__law_seq := by
  refine fng_of F sc__law_seq (by decide) (by decide) ?_
  intro cdv A outer s H E hr hgd
  exact ⟨_, _, mb_cons (ms_if (mc_bin (fun ha hb => pt_cmpR (op_eqA (room_64 hr)) ha hb (nomark _)) opm_eq (me_callC c__law_take (fun _ _ _ _ _ _ _ us hl => match us, hl with | [_, _], _ => rfl) hr (by decide) hgd (by rfl) (L2N.takes_of rfl rfl rfl rfl) (mx_s (pv 0) (mx_v (me_int) (mx_nil) (by decide))) rfl rfl (by decide) (by decide)) (me_int) (by decide) eqT_bl) (mb_one (ms_ret (me_cal (fun ha => pe_callTy call_list_of (by rfl) n_list (by decide +kernel) ha) cm_list (ma_cons (me_pv (pv 1)) (ma_nil) (by decide) (by rfl))))) (mb_nil))
      (mb_one (ms_ret (me_cal (fun ha => pe_callTy call_tuple_ofX (by rfl) n_tuple (by decide +kernel) ha) cm_tup (ma_cons (me_pv (pv 1)) (ma_nil) (by decide) (by rfl))))), by decide⟩
theorem sc__law_error : FnScope ["_law_e", "_law_found"] ["_law_e"] (defScope s__law_error) := ⟨rfl, rfl, rfl, by decide +kernel, rfl, by decide +kernel, by decide +kernel⟩
theorem ok__law_error {P : Program} {w : World} {K : PySem.W.Frag} {mg : Str → Option Value} {base : Heap} {f : Addr} {fd : FuncData} (F : FunD K "_law_error" "_law_error" (defArgs s__law_error) (defBody s__law_error) (defScope s__law_error) [] [] f fd) (n_isinstance : mg "isinstance" = none) (c__law_error_more : CalX P w K mg base s__law_error_more 1 "_law_error_more" ["_law_e", "_law_found"] [1] m__law_error_more) (xf : XF K mg xtab) :
    FnX P w K mg base 2 f fd ["_law_e"] [] m__law_error := by
  refine fnx_of F sc__law_error (by decide) (by decide) ?_
  intro cdv A outer s H p hr hgd cls d x P
  exact ⟨_, _, mb_cons (ms_asg (fun h => ps_set (i := 1) sc__law_error.nd rfl (by first | exact Or.inl rfl | exact Or.inr rfl) h) (me_lst (ma_nil)) (by decide))
      (mb_cons (ms_if (mc_tru (me_isx (yn := "BadName") (fl := ["name"]) rfl P xf (by decide +kernel) (pv 0) (fun _ mD => pe_glob (by rfl) mD rfl) (fun h1 h2 => pe_callB (call_isZ P) (by rfl) n_isinstance (by decide +kernel) (pa_cons h1 (pa_cons h2 pa_nil)))) (by intro _; rfl)) (mb_one (ms_expr (me_append (fun h => pe_bm PySem.F.plainAttrs_list PySem.F.slot_list_append PySem.F.type_list_append mt_append (pv 1) (pa_cons h pa_nil)) (me_tup (ma_cons (me_str) (ma_cons (me_xf rfl P xf (pv 0)) (ma_nil) (by decide) (by rfl)) (by decide) (by rfl)))) (by rfl))) (mb_nil))
      (mb_cons (ms_if (mc_tru (me_isx (yn := "BadNumber") (fl := ["number"]) rfl P xf (by decide +kernel) (pv 0) (fun _ mD => pe_glob (by rfl) mD rfl) (fun h1 h2 => pe_callB (call_isZ P) (by rfl) n_isinstance (by decide +kernel) (pa_cons h1 (pa_cons h2 pa_nil)))) (by intro _; rfl)) (mb_one (ms_expr (me_append (fun h => pe_bm PySem.F.plainAttrs_list PySem.F.slot_list_append PySem.F.type_list_append mt_append (pv 1) (pa_cons h pa_nil)) (me_tup (ma_cons (me_str) (ma_cons (me_xf rfl P xf (pv 0)) (ma_nil) (by decide) (by rfl)) (by decide) (by rfl)))) (by rfl))) (mb_nil))
      (mb_cons (ms_if (mc_tru (me_isx (yn := "BadSize") (fl := ["what", "size"]) rfl P xf (by decide +kernel) (pv 0) (fun _ mD => pe_glob (by rfl) mD rfl) (fun h1 h2 => pe_callB (call_isZ P) (by rfl) n_isinstance (by decide +kernel) (pa_cons h1 (pa_cons h2 pa_nil)))) (by intro _; rfl)) (mb_one (ms_expr (me_append (fun h => pe_bm PySem.F.plainAttrs_list PySem.F.slot_list_append PySem.F.type_list_append mt_append (pv 1) (pa_cons h pa_nil)) (me_tup (ma_cons (me_str) (ma_cons (me_xf rfl P xf (pv 0)) (ma_cons (me_xf rfl P xf (pv 0)) (ma_nil) (by decide) (by rfl)) (by decide) (by rfl)) (by decide) (by rfl)))) (by rfl))) (mb_nil))
      (mb_cons (ms_if (mc_tru (me_isx (yn := "Repeated") (fl := ["name"]) rfl P xf (by decide +kernel) (pv 0) (fun _ mD => pe_glob (by rfl) mD rfl) (fun h1 h2 => pe_callB (call_isZ P) (by rfl) n_isinstance (by decide +kernel) (pa_cons h1 (pa_cons h2 pa_nil)))) (by intro _; rfl)) (mb_one (ms_expr (me_append (fun h => pe_bm PySem.F.plainAttrs_list PySem.F.slot_list_append PySem.F.type_list_append mt_append (pv 1) (pa_cons h pa_nil)) (me_tup (ma_cons (me_str) (ma_cons (me_xf rfl P xf (pv 0)) (ma_nil) (by decide) (by rfl)) (by decide) (by rfl)))) (by rfl))) (mb_nil))
      (mb_cons (ms_if (mc_tru (me_isx (yn := "Unknown") (fl := ["what", "name"]) rfl P xf (by decide +kernel) (pv 0) (fun _ mD => pe_glob (by rfl) mD rfl) (fun h1 h2 => pe_callB (call_isZ P) (by rfl) n_isinstance (by decide +kernel) (pa_cons h1 (pa_cons h2 pa_nil)))) (by intro _; rfl)) (mb_one (ms_expr (me_append (fun h => pe_bm PySem.F.plainAttrs_list PySem.F.slot_list_append PySem.F.type_list_append mt_append (pv 1) (pa_cons h pa_nil)) (me_tup (ma_cons (me_str) (ma_cons (me_xf rfl P xf (pv 0)) (ma_cons (me_xf rfl P xf (pv 0)) (ma_nil) (by decide) (by rfl)) (by decide) (by rfl)) (by decide) (by rfl)))) (by rfl))) (mb_nil))
      (mb_cons (ms_if (mc_tru (me_isx (yn := "BadEnd") (fl := ["way", "place"]) rfl P xf (by decide +kernel) (pv 0) (fun _ mD => pe_glob (by rfl) mD rfl) (fun h1 h2 => pe_callB (call_isZ P) (by rfl) n_isinstance (by decide +kernel) (pa_cons h1 (pa_cons h2 pa_nil)))) (by intro _; rfl)) (mb_one (ms_expr (me_append (fun h => pe_bm PySem.F.plainAttrs_list PySem.F.slot_list_append PySem.F.type_list_append mt_append (pv 1) (pa_cons h pa_nil)) (me_tup (ma_cons (me_str) (ma_cons (me_xf rfl P xf (pv 0)) (ma_cons (me_xf rfl P xf (pv 0)) (ma_nil) (by decide) (by rfl)) (by decide) (by rfl)) (by decide) (by rfl)))) (by rfl))) (mb_nil))
      (mb_cons (ms_if (mc_tru (me_isx (yn := "NoWalker") (fl := ["place"]) rfl P xf (by decide +kernel) (pv 0) (fun _ mD => pe_glob (by rfl) mD rfl) (fun h1 h2 => pe_callB (call_isZ P) (by rfl) n_isinstance (by decide +kernel) (pa_cons h1 (pa_cons h2 pa_nil)))) (by intro _; rfl)) (mb_one (ms_expr (me_append (fun h => pe_bm PySem.F.plainAttrs_list PySem.F.slot_list_append PySem.F.type_list_append mt_append (pv 1) (pa_cons h pa_nil)) (me_tup (ma_cons (me_str) (ma_cons (me_xf rfl P xf (pv 0)) (ma_nil) (by decide) (by rfl)) (by decide) (by rfl)))) (by rfl))) (mb_nil))
      (mb_cons (ms_if (mc_tru (me_isx (yn := "Occupied") (fl := ["place"]) rfl P xf (by decide +kernel) (pv 0) (fun _ mD => pe_glob (by rfl) mD rfl) (fun h1 h2 => pe_callB (call_isZ P) (by rfl) n_isinstance (by decide +kernel) (pa_cons h1 (pa_cons h2 pa_nil)))) (by intro _; rfl)) (mb_one (ms_expr (me_append (fun h => pe_bm PySem.F.plainAttrs_list PySem.F.slot_list_append PySem.F.type_list_append mt_append (pv 1) (pa_cons h pa_nil)) (me_tup (ma_cons (me_str) (ma_cons (me_xf rfl P xf (pv 0)) (ma_nil) (by decide) (by rfl)) (by decide) (by rfl)))) (by rfl))) (mb_nil))
      (mb_cons (ms_if (mc_tru (me_isx (yn := "Unlike") (fl := ["what"]) rfl P xf (by decide +kernel) (pv 0) (fun _ mD => pe_glob (by rfl) mD rfl) (fun h1 h2 => pe_callB (call_isZ P) (by rfl) n_isinstance (by decide +kernel) (pa_cons h1 (pa_cons h2 pa_nil)))) (by intro _; rfl)) (mb_one (ms_expr (me_append (fun h => pe_bm PySem.F.plainAttrs_list PySem.F.slot_list_append PySem.F.type_list_append mt_append (pv 1) (pa_cons h pa_nil)) (me_tup (ma_cons (me_str) (ma_cons (me_xf rfl P xf (pv 0)) (ma_nil) (by decide) (by rfl)) (by decide) (by rfl)))) (by rfl))) (mb_nil))
      (mb_cons (ms_if (mc_tru (me_isx (yn := "Named") (fl := ["names"]) rfl P xf (by decide +kernel) (pv 0) (fun _ mD => pe_glob (by rfl) mD rfl) (fun h1 h2 => pe_callB (call_isZ P) (by rfl) n_isinstance (by decide +kernel) (pa_cons h1 (pa_cons h2 pa_nil)))) (by intro _; rfl)) (mb_one (ms_expr (me_append (fun h => pe_bm PySem.F.plainAttrs_list PySem.F.slot_list_append PySem.F.type_list_append mt_append (pv 1) (pa_cons h pa_nil)) (me_tup (ma_cons (me_str) (ma_cons (me_xf rfl P xf (pv 0)) (ma_nil) (by decide) (by rfl)) (by decide) (by rfl)))) (by rfl))) (mb_nil))
      (mb_cons (ms_if (mc_tru (me_isx (yn := "TooLarge") (fl := ["what", "size"]) rfl P xf (by decide +kernel) (pv 0) (fun _ mD => pe_glob (by rfl) mD rfl) (fun h1 h2 => pe_callB (call_isZ P) (by rfl) n_isinstance (by decide +kernel) (pa_cons h1 (pa_cons h2 pa_nil)))) (by intro _; rfl)) (mb_one (ms_expr (me_append (fun h => pe_bm PySem.F.plainAttrs_list PySem.F.slot_list_append PySem.F.type_list_append mt_append (pv 1) (pa_cons h pa_nil)) (me_tup (ma_cons (me_str) (ma_cons (me_xf rfl P xf (pv 0)) (ma_cons (me_xf rfl P xf (pv 0)) (ma_nil) (by decide) (by rfl)) (by decide) (by rfl)) (by decide) (by rfl)))) (by rfl))) (mb_nil))
      (mb_cons (ms_if (mc_tru (me_isx (yn := "NoDeed") (fl := ["index", "way", "cause"]) rfl P xf (by decide +kernel) (pv 0) (fun _ mD => pe_glob (by rfl) mD rfl) (fun h1 h2 => pe_callB (call_isZ P) (by rfl) n_isinstance (by decide +kernel) (pa_cons h1 (pa_cons h2 pa_nil)))) (by intro _; rfl)) (mb_one (ms_expr (me_append (fun h => pe_bm PySem.F.plainAttrs_list PySem.F.slot_list_append PySem.F.type_list_append mt_append (pv 1) (pa_cons h pa_nil)) (me_tup (ma_cons (me_str) (ma_cons (me_xf rfl P xf (pv 0)) (ma_cons (me_xf rfl P xf (pv 0)) (ma_cons (me_xf rfl P xf (pv 0)) (ma_nil) (by decide) (by rfl)) (by decide) (by rfl)) (by decide) (by rfl)) (by decide) (by rfl)))) (by rfl))) (mb_nil))
      (mb_one (ms_ret (me_callX rfl rfl P c__law_error_more (fun _ _ _ _ _ _ _ us hl => match us, hl with | [_, _], _ => rfl) hr (by decide) hgd (by rfl) (pv 0) (mx_s (pv 1) (mx_nil)) rfl rfl (by decide) (by decide)))))))))))))))), by decide⟩
theorem sc_ascending : FnScope ["names", "repeated"] ["names"] (defScope s_ascending) := ⟨rfl, rfl, rfl, by decide +kernel, rfl, by decide +kernel, by decide +kernel⟩
theorem ok_ascending {P : Program} {w : World} {K : PySem.W.Frag} {mg : Str → Option Value} {base : Heap} {f : Addr} {fd : FuncData} (F : FunD K "ascending" "ascending" (defArgs s_ascending) (defBody s_ascending) (defScope s_ascending) [] [] f fd) (c_first_repeated : CalOk P w K mg base s_first_repeated 1 "first_repeated" ["names"] [] m_first_repeated) (n_sorted : mg "sorted" = none) (mk_Repeated : MakOk P w K mg base "Repeated" ["name"]) :
    FnG P w K mg base 3 f fd ["names"] [] m_ascending := by
  refine fng_of F sc_ascending (by decide) (by decide) ?_
  intro cdv A outer s H E hr hgd
  exact ⟨_, _, mb_cons (ms_asg (fun h => ps_set (i := 1) sc_ascending.nd rfl (by first | exact Or.inl rfl | exact Or.inr rfl) h) (me_callC c_first_repeated (fun _ _ _ _ _ _ _ us hl => match us, hl with | [_], _ => rfl) hr (by decide) hgd (by rfl) (L2N.takes_of rfl rfl rfl rfl) (mx_v (me_pv (pv 0)) (mx_nil) (by decide)) rfl rfl (by decide) (by decide)) (by decide))
      (mb_cons (ms_if (mc_bin (fun ha hb => pt_cmpR op_isnA ha hb (nomark _)) opm_isn (me_pv (pv 1)) (me_non) (by decide) isnT_bl) (mb_one (ms_raise mk_Repeated rfl (L2N.takes_of rfl rfl rfl rfl) hr (by decide) (by rfl) (ma_cons (me_settle (me_pv (pv 1))) (ma_nil) (by decide) (by rfl)) (by decide))) (mb_nil))
      (mb_one (ms_ret (me_cal (fun ha => pe_callB (cr_sortedD (room_u hr)) (by rfl) n_sorted (by decide +kernel) ha) cm_srtD (ma_cons (me_pv (pv 0)) (ma_nil) (by decide) (by rfl)))))), by decide⟩
theorem sc__law_upto : FnScope ["_law_store_here", "_law_low", "_law_high", "_law_kind"] ["_law_store_here", "_law_low", "_law_high"] (defScope s__law_upto) := ⟨rfl, rfl, rfl, by decide +kernel, rfl, by decide +kernel, by decide +kernel⟩
theorem ok__law_upto {P : Program} {w : World} {K : PySem.W.Frag} {mg : Str → Option Value} {base : Heap} {f : Addr} {fd : FuncData} (F : FunD K "_law_upto" "_law_upto" (defArgs s__law_upto) (defBody s__law_upto) (defScope s__law_upto) [] [] f fd) (c__law_range : CalOk P w K mg base s__law_range 2 "_law_range" ["_law_store_here", "_law_low", "_law_high"] [0] m__law_range) (c__law_take : CalOk P w K mg base s__law_take 1 "_law_take" ["_law_store_here", "_law_many"] [0] m__law_take) (n_max : mg "max" = none) :
    FnG P w K mg base 3 f fd ["_law_store_here", "_law_low", "_law_high"] [0] m__law_upto := by
  refine fng_of F sc__law_upto (by decide) (by decide) ?_
  intro cdv A outer s H E hr hgd
  exact ⟨_, _, mb_cons (ms_asg (fun h => ps_set (i := 3) sc__law_upto.nd rfl (by first | exact Or.inl rfl | exact Or.inr rfl) h) (me_callC c__law_take (fun _ _ _ _ _ _ _ us hl => match us, hl with | [_, _], _ => rfl) hr (by decide) hgd (by rfl) (L2N.takes_of rfl rfl rfl rfl) (mx_s (pv 0) (mx_v (me_int) (mx_nil) (by decide))) rfl rfl (by decide) (by decide)) (by decide))
      (mb_cons (ms_if (mc_bin (fun ha hb => pt_cmpR (op_eqA (room_64 hr)) ha hb (nomark _)) opm_eq (me_pv (pv 3)) (me_int) (by decide) eqT_bl) (mb_one (ms_ret (me_pv (pv 1)))) (mb_nil))
      (mb_cons (ms_if (mc_bin (fun ha hb => pt_cmpR (op_eqA (room_64 hr)) ha hb (nomark _)) opm_eq (me_pv (pv 3)) (me_int) (by decide) eqT_bl) (mb_one (ms_ret (me_cal (fun ha => pe_callB (call_max2 rfl) (by rfl) n_max (by decide +kernel) ha) cm_max (ma_cons (me_pv (pv 1)) (ma_cons (me_pv (pv 2)) (ma_nil) (by decide) (by rfl)) (by decide) (by rfl))))) (mb_nil))
      (mb_one (ms_ret (me_callC c__law_range (fun _ _ _ _ _ _ _ us hl => match us, hl with | [_, _, _], _ => rfl) hr (by decide) hgd (by rfl) (L2N.takes_of rfl rfl rfl rfl) (mx_s (pv 0) (mx_v (me_pv (pv 1)) (mx_v (me_pv (pv 2)) (mx_nil) (by decide)) (by decide))) rfl rfl (by decide) (by decide)))))), by decide⟩
theorem sc__law_name : FnScope ["_law_store_here", "_law_small", "_law_signs", "_law_kind", "_law_many", "_law_found", "_law_k", "_law_at", "_law_sign"] ["_law_store_here"] (defScope s__law_name) := ⟨rfl, rfl, rfl, by decide +kernel, rfl, by decide +kernel, by decide +kernel⟩
theorem ok__law_name {P : Program} {w : World} {K : PySem.W.Frag} {mg : Str → Option Value} {base : Heap} {f : Addr} {fd : FuncData} (F : FunD K "_law_name" "_law_name" (defArgs s__law_name) (defBody s__law_name) (defScope s__law_name) [] [] f fd) (c__law_one : CalOk P w K mg base s__law_one 2 "_law_one" ["_law_store_here", "_law_row"] [0] m__law_one) (c__law_range : CalOk P w K mg base s__law_range 2 "_law_range" ["_law_store_here", "_law_low", "_law_high"] [0] m__law_range) (c__law_take : CalOk P w K mg base s__law_take 1 "_law_take" ["_law_store_here", "_law_many"] [0] m__law_take) (n_range : mg "range" = none) :
    FnG P w K mg base 3 f fd ["_law_store_here"] [0] m__law_name := by
  refine fng_of F sc__law_name (by decide) (by decide) ?_
  intro cdv A outer s H E hr hgd
  exact ⟨_, _, mb_cons (ms_asg (fun h => ps_set (i := 1) sc__law_name.nd rfl (by first | exact Or.inl rfl | exact Or.inr rfl) h) (me_str) (by decide))
      (mb_cons (ms_asg (fun h => ps_set (i := 2) sc__law_name.nd rfl (by first | exact Or.inl rfl | exact Or.inr rfl) h) (me_bin (pe_op op_addA) opm_add (me_pv (pv 1)) (me_str) (by decide)) (by decide))
      (mb_cons (ms_asg (fun h => ps_set (i := 3) sc__law_name.nd rfl (by first | exact Or.inl rfl | exact Or.inr rfl) h) (me_callC c__law_take (fun _ _ _ _ _ _ _ us hl => match us, hl with | [_, _], _ => rfl) hr (by decide) hgd (by rfl) (L2N.takes_of rfl rfl rfl rfl) (mx_s (pv 0) (mx_v (me_int) (mx_nil) (by decide))) rfl rfl (by decide) (by decide)) (by decide))
      (mb_cons (ms_if (mc_bin (fun ha hb => pt_cmpR (op_eqA (room_64 hr)) ha hb (nomark _)) opm_eq (me_pv (pv 3)) (me_int) (by decide) eqT_bl) (mb_one (ms_ret (me_ix (me_pv (pv 1)) (me_callC c__law_take (fun _ _ _ _ _ _ _ us hl => match us, hl with | [_, _], _ => rfl) hr (by decide) hgd (by rfl) (L2N.takes_of rfl rfl rfl rfl) (mx_s (pv 0) (mx_v (me_int) (mx_nil) (by decide))) rfl rfl (by decide) (by decide)) (by decide) (fun _ _ => rfl)))) (mb_nil))
      (mb_cons (ms_if (mc_bin (fun ha hb => pt_cmpR (op_eqA (room_64 hr)) ha hb (nomark _)) opm_eq (me_pv (pv 3)) (me_int) (by decide) eqT_bl) (mb_one (ms_ret (me_bin (pe_op op_addA) opm_add (me_ix (me_str) (me_callC c__law_take (fun _ _ _ _ _ _ _ us hl => match us, hl with | [_, _], _ => rfl) hr (by decide) hgd (by rfl) (L2N.takes_of rfl rfl rfl rfl) (mx_s (pv 0) (mx_v (me_int) (mx_nil) (by decide))) rfl rfl (by decide) (by decide)) (by decide) (fun _ _ => rfl)) (me_ix (me_str) (me_callC c__law_take (fun _ _ _ _ _ _ _ us hl => match us, hl with | [_, _], _ => rfl) hr (by decide) hgd (by rfl) (L2N.takes_of rfl rfl rfl rfl) (mx_s (pv 0) (mx_v (me_int) (mx_nil) (by decide))) rfl rfl (by decide) (by decide)) (by decide) (fun _ _ => rfl)) (by decide)))) (mb_nil))
      (mb_cons (ms_if (mc_bin (fun ha hb => pt_cmpR (op_eqA (room_64 hr)) ha hb (nomark _)) opm_eq (me_pv (pv 3)) (me_int) (by decide) eqT_bl) (mb_one (ms_ret (me_callC c__law_one (fun _ _ _ _ _ _ _ us hl => match us, hl with | [_, _], _ => rfl) hr (by decide) hgd (by rfl) (L2N.takes_of rfl rfl rfl rfl) (mx_s (pv 0) (mx_v (me_lst (ma_cons (me_str) (ma_cons (me_str) (ma_cons (me_str) (ma_cons (me_str) (ma_cons (me_str) (ma_cons (me_str) (ma_cons (me_str) (ma_cons (me_str) (ma_cons (me_str) (ma_cons (me_str) (ma_cons (me_str) (ma_cons (me_str) (ma_cons (me_str) (ma_cons (me_str) (ma_cons (me_str) (ma_cons (me_str) (ma_cons (me_str) (ma_cons (me_str) (ma_cons (me_str) (ma_cons (me_str) (ma_cons (me_str) (ma_cons (me_str) (ma_cons (me_str) (ma_cons (me_str) (ma_nil) (by decide) (by rfl)) (by decide) (by rfl)) (by decide) (by rfl)) (by decide) (by rfl)) (by decide) (by rfl)) (by decide) (by rfl)) (by decide) (by rfl)) (by decide) (by rfl)) (by decide) (by rfl)) (by decide) (by rfl)) (by decide) (by rfl)) (by decide) (by rfl)) (by decide) (by rfl)) (by decide) (by rfl)) (by decide) (by rfl)) (by decide) (by rfl)) (by decide) (by rfl)) (by decide) (by rfl)) (by decide) (by rfl)) (by decide) (by rfl)) (by decide) (by rfl)) (by decide) (by rfl)) (by decide) (by rfl)) (by decide) (by rfl))) (mx_nil) (by decide))) rfl rfl (by decide) (by decide)))) (mb_nil))
      (mb_cons (ms_if (mc_bin (fun ha hb => pt_cmpR (op_eqA (room_64 hr)) ha hb (nomark _)) opm_eq (me_pv (pv 3)) (me_int) (by decide) eqT_bl) (mb_cons (ms_asg (fun h => ps_set (i := 4) sc__law_name.nd rfl (by first | exact Or.inl rfl | exact Or.inr rfl) h) (me_callC c__law_range (fun _ _ _ _ _ _ _ us hl => match us, hl with | [_, _, _], _ => rfl) hr (by decide) hgd (by rfl) (L2N.takes_of rfl rfl rfl rfl) (mx_s (pv 0) (mx_v (me_int) (mx_v (me_int) (mx_nil) (by decide)) (by decide))) rfl rfl (by decide) (by decide)) (by decide))
      (mb_cons (ms_asg (fun h => ps_set (i := 7) sc__law_name.nd rfl (by first | exact Or.inl rfl | exact Or.inr rfl) h) (me_callC c__law_take (fun _ _ _ _ _ _ _ us hl => match us, hl with | [_, _], _ => rfl) hr (by decide) hgd (by rfl) (L2N.takes_of rfl rfl rfl rfl) (mx_s (pv 0) (mx_v (me_pv (pv 4)) (mx_nil) (by decide))) rfl rfl (by decide) (by decide)) (by decide))
      (mb_cons (ms_asg (fun h => ps_set (i := 8) sc__law_name.nd rfl (by first | exact Or.inl rfl | exact Or.inr rfl) h) (me_settle (me_ix (me_pv (pv 1)) (me_callC c__law_take (fun _ _ _ _ _ _ _ us hl => match us, hl with | [_, _], _ => rfl) hr (by decide) hgd (by rfl) (L2N.takes_of rfl rfl rfl rfl) (mx_s (pv 0) (mx_v (me_int) (mx_nil) (by decide))) rfl rfl (by decide) (by decide)) (by decide) (fun _ _ => rfl))) (by decide))
      (mb_cons (ms_if (mc_bin (fun ha hb => pt_cmpR op_gtA ha hb (nomark _)) opm_gt (me_pv (pv 7)) (me_int) (by decide) gtT_bl) (mb_one (ms_asg (fun h => ps_set (i := 8) sc__law_name.nd rfl (by first | exact Or.inl rfl | exact Or.inr rfl) h) (me_settle (me_ix (me_pv (pv 2)) (me_callC c__law_take (fun _ _ _ _ _ _ _ us hl => match us, hl with | [_, _], _ => rfl) hr (by decide) hgd (by rfl) (L2N.takes_of rfl rfl rfl rfl) (mx_s (pv 0) (mx_v (me_int) (mx_nil) (by decide))) rfl rfl (by decide) (by decide)) (by decide) (fun _ _ => rfl))) (by decide))) (mb_nil))
      (mb_one (ms_ret (me_bin (pe_op op_addA) opm_add (me_bin (pe_op op_addA) opm_add (me_slice (me_str) (mo_none) (mo_some (me_pv (pv 7))) (by decide)) (me_pv (pv 8)) (by decide)) (me_slice (me_str) (mo_none) (mo_some (me_bin (pe_op op_sub) opm_sub (me_bin (pe_op op_sub) opm_sub (me_pv (pv 4)) (me_int) (by decide)) (me_pv (pv 7)) (by decide))) (by decide)) (by decide)))))))) (mb_nil))
      (mb_cons (ms_asg (fun h => ps_set (i := 4) sc__law_name.nd rfl (by first | exact Or.inl rfl | exact Or.inr rfl) h) (me_int) (by decide))
      (mb_cons (ms_if (mc_bin (fun ha hb => pt_cmpR (op_eqA (room_64 hr)) ha hb (nomark _)) opm_eq (me_pv (pv 3)) (me_int) (by decide) eqT_bl) (mb_one (ms_asg (fun h => ps_set (i := 4) sc__law_name.nd rfl (by first | exact Or.inl rfl | exact Or.inr rfl) h) (me_callC c__law_range (fun _ _ _ _ _ _ _ us hl => match us, hl with | [_, _, _], _ => rfl) hr (by decide) hgd (by rfl) (L2N.takes_of rfl rfl rfl rfl) (mx_s (pv 0) (mx_v (me_int) (mx_v (me_int) (mx_nil) (by decide)) (by decide))) rfl rfl (by decide) (by decide)) (by decide))) (mb_nil))
      (mb_cons (ms_asg (fun h => ps_set (i := 5) sc__law_name.nd rfl (by first | exact Or.inl rfl | exact Or.inr rfl) h) (me_settle (me_ix (me_pv (pv 1)) (me_callC c__law_take (fun _ _ _ _ _ _ _ us hl => match us, hl with | [_, _], _ => rfl) hr (by decide) hgd (by rfl) (L2N.takes_of rfl rfl rfl rfl) (mx_s (pv 0) (mx_v (me_int) (mx_nil) (by decide))) rfl rfl (by decide) (by decide)) (by decide) (fun _ _ => rfl))) (by decide))
      (mb_cons (ms_for (passes_of rfl) rfl (mi_range1 (fun ha => pi_range1 (by rfl) n_range ha) (me_bin (pe_op op_sub) opm_sub (me_pv (pv 4)) (me_int) (by decide))) (mg_name (pg_name (i := 6) sc__law_name.nd rfl (by first | exact Or.inl rfl | exact Or.inr rfl))) (mb_one (ms_asg (fun h => ps_set (i := 5) sc__law_name.nd rfl (by first | exact Or.inl rfl | exact Or.inr rfl) h) (me_bin (pe_op op_addA) opm_add (me_pv (pv 5)) (me_ix (me_pv (pv 2)) (me_callC c__law_take (fun _ _ _ _ _ _ _ us hl => match us, hl with | [_, _], _ => rfl) hr (by decide) hgd (by rfl) (L2N.takes_of rfl rfl rfl rfl) (mx_s (pv 0) (mx_v (me_int) (mx_nil) (by decide))) rfl rfl (by decide) (by decide)) (by decide) (fun _ _ => rfl)) (by decide)) (by decide))) (by decide) (by decide))
      (mb_one (ms_ret (me_pv (pv 5)))))))))))))), by decide⟩
theorem sc__law_text : FnScope ["_law_store_here", "_law_many", "_law_signs", "_law_found", "_law_k"] ["_law_store_here", "_law_many"] (defScope s__law_text) := ⟨rfl, rfl, rfl, by decide +kernel, rfl, by decide +kernel, by decide +kernel⟩
theorem ok__law_text {P : Program} {w : World} {K : PySem.W.Frag} {mg : Str → Option Value} {base : Heap} {f : Addr} {fd : FuncData} (F : FunD K "_law_text" "_law_text" (defArgs s__law_text) (defBody s__law_text) (defScope s__law_text) [] [] f fd) (c__law_seldom : CalOk P w K mg base s__law_seldom 2 "_law_seldom" ["_law_store_here", "_law_many"] [0] m__law_seldom) (c__law_take : CalOk P w K mg base s__law_take 1 "_law_take" ["_law_store_here", "_law_many"] [0] m__law_take) (c__law_upto : CalOk P w K mg base s__law_upto 3 "_law_upto" ["_law_store_here", "_law_low", "_law_high"] [0] m__law_upto) (n_len : mg "len" = none) (n_min : mg "min" = none) (n_range : mg "range" = none) :
    FnG P w K mg base 4 f fd ["_law_store_here", "_law_many"] [0] m__law_text := by
  refine fng_of F sc__law_text (by decide) (by decide) ?_
  intro cdv A outer s H E hr hgd
  exact ⟨_, _, mb_cons (ms_asg (fun h => ps_set (i := 2) sc__law_text.nd rfl (by first | exact Or.inl rfl | exact Or.inr rfl) h) (me_str) (by decide))
      (mb_cons (ms_asg (fun h => ps_set (i := 2) sc__law_text.nd rfl (by first | exact Or.inl rfl | exact Or.inr rfl) h) (me_bin (pe_op op_addA) opm_add (me_pv (pv 2)) (me_str) (by decide)) (by decide))
      (mb_cons (ms_asg (fun h => ps_set (i := 3) sc__law_text.nd rfl (by first | exact Or.inl rfl | exact Or.inr rfl) h) (me_str) (by decide))
      (mb_cons (ms_for (passes_of rfl) rfl (mi_range1 (fun ha => pi_range1 (by rfl) n_range ha) (me_callC c__law_upto (fun _ _ _ _ _ _ _ us hl => match us, hl with | [_, _, _], _ => rfl) hr (by decide) hgd (by rfl) (L2N.takes_of rfl rfl rfl rfl) (mx_s (pv 0) (mx_v (me_int) (mx_v (me_cal (fun ha => pe_callB (call_min2 rfl) (by rfl) n_min (by decide +kernel) ha) cm_min (ma_cons (me_pv (pv 1)) (ma_cons (me_int) (ma_nil) (by decide) (by rfl)) (by decide) (by rfl))) (mx_nil) (by decide)) (by decide))) rfl rfl (by decide) (by decide))) (mg_name (pg_name (i := 4) sc__law_text.nd rfl (by first | exact Or.inl rfl | exact Or.inr rfl))) (mb_one (ms_asg (fun h => ps_set (i := 3) sc__law_text.nd rfl (by first | exact Or.inl rfl | exact Or.inr rfl) h) (me_bin (pe_op op_addA) opm_add (me_pv (pv 3)) (me_ix (me_pv (pv 2)) (me_callC c__law_take (fun _ _ _ _ _ _ _ us hl => match us, hl with | [_, _], _ => rfl) hr (by decide) hgd (by rfl) (L2N.takes_of rfl rfl rfl rfl) (mx_s (pv 0) (mx_v (me_cal (fun ha => pe_callB call_len (by rfl) n_len (by decide +kernel) ha) cm_len (ma_cons (me_pv (pv 2)) (ma_nil) (by decide) (by rfl))) (mx_nil) (by decide))) rfl rfl (by decide) (by decide)) (by decide) (fun _ _ => rfl)) (by decide)) (by decide))) (by decide) (by decide))
      (mb_cons (ms_if (mw_pt (mw_and (mc_bin (fun ha hb => pt_cmpR op_gtA ha hb (nomark _)) opm_gt (me_cal (fun ha => pe_callB call_len (by rfl) n_len (by decide +kernel) ha) cm_len (ma_cons (me_pv (pv 3)) (ma_nil) (by decide) (by rfl))) (me_int) (by decide) gtT_bl) (mw_and (mc_bin (fun ha hb => pt_cmpR op_gtA ha hb (nomark _)) opm_gt (me_pv (pv 1)) (me_int) (by decide) gtT_bl) (mw_and1 (mc_tru (me_callC c__law_seldom (fun _ _ _ _ _ _ _ us hl => match us, hl with | [_, _], _ => rfl) hr (by decide) hgd (by rfl) (L2N.takes_of rfl rfl rfl rfl) (mx_s (pv 0) (mx_v (me_int) (mx_nil) (by decide))) rfl rfl (by decide) (by decide)) (by intro _; rfl)))))) (mb_one (ms_asg (fun h => ps_set (i := 3) sc__law_text.nd rfl (by first | exact Or.inl rfl | exact Or.inr rfl) h) (me_slice (me_bin (pe_op op_mulA) opm_mul (me_pv (pv 3)) (me_pv (pv 1)) (by decide)) (mo_none) (mo_some (me_pv (pv 1))) (by decide)) (by decide))) (mb_nil))
      (mb_one (ms_ret (me_pv (pv 3)))))))), by decide⟩
theorem sc__law_new_name : FnScope ["_law_store_here", "_law_taken", "_law_signs", "_law_name_here", "_law_stem", "_law_k"] ["_law_store_here", "_law_taken"] (defScope s__law_new_name) := ⟨rfl, rfl, rfl, by decide +kernel, rfl, by decide +kernel, by decide +kernel⟩
theorem ok__law_new_name {P : Program} {w : World} {K : PySem.W.Frag} {mg : Str → Option Value} {base : Heap} {f : Addr} {fd : FuncData} (F : FunD K "_law_new_name" "_law_new_name" (defArgs s__law_new_name) (defBody s__law_new_name) (defScope s__law_new_name) [] [] f fd) (c__law_name : CalOk P w K mg base s__law_name 3 "_law_name" ["_law_store_here"] [0] m__law_name) (n_int : mg "int" = none) (n_len : mg "len" = none) (n_range : mg "range" = none) :
    FnG P w K mg base 4 f fd ["_law_store_here", "_law_taken"] [0] m__law_new_name := by
  refine fng_of F sc__law_new_name (by decide) (by decide) ?_
  intro cdv A outer s H E hr hgd
  exact ⟨_, _, mb_cons (ms_asg (fun h => ps_set (i := 2) sc__law_new_name.nd rfl (by first | exact Or.inl rfl | exact Or.inr rfl) h) (me_str) (by decide))
      (mb_cons (ms_asg (fun h => ps_set (i := 3) sc__law_new_name.nd rfl (by first | exact Or.inl rfl | exact Or.inr rfl) h) (me_callC c__law_name (fun _ _ _ _ _ _ _ us hl => match us, hl with | [_], _ => rfl) hr (by decide) hgd (by rfl) (L2N.takes_of rfl rfl rfl rfl) (mx_s (pv 0) (mx_nil)) rfl rfl (by decide) (by decide)) (by decide))
      (mb_cons (ms_asg (fun h => ps_set (i := 4) sc__law_new_name.nd rfl (by first | exact Or.inl rfl | exact Or.inr rfl) h) (me_slice (me_pv (pv 3)) (mo_none) (mo_some (me_int)) (by decide)) (by decide))
      (mb_cons (ms_for (passes_of rfl) rfl (mi_range1 (fun ha => pi_range1 (by rfl) n_range ha) (me_bin (pe_op op_addA) opm_add (me_cal (fun ha => pe_callB call_len (by rfl) n_len (by decide +kernel) ha) cm_len (ma_cons (me_pv (pv 1)) (ma_nil) (by decide) (by rfl))) (me_int) (by decide))) (mg_name (pg_name (i := 5) sc__law_new_name.nd rfl (by first | exact Or.inl rfl | exact Or.inr rfl))) (mb_cons (ms_if (mc_bin (fun ha hb => pt_cmpR (op_ninA (room_65 hr)) ha hb (by rfl)) opm_nin (me_pv (pv 3)) (me_pv (pv 1)) (by decide) ninT_bl) (mb_one (ms_ret (me_pv (pv 3)))) (mb_nil))
      (mb_one (ms_asg (fun h => ps_set (i := 3) sc__law_new_name.nd rfl (by first | exact Or.inl rfl | exact Or.inr rfl) h) (me_bin (pe_op op_addA) opm_add (me_bin (pe_op op_addA) opm_add (me_pv (pv 4)) (me_ix (me_pv (pv 2)) (me_bin (pe_op op_mod) opm_mod (me_cal (fun ha => pe_callTy call_int1 (by rfl) n_int (by decide +kernel) ha) cm_int (ma_cons (me_bin (pe_op op_fdiv) opm_div (me_pv (pv 5)) (me_int) (by decide)) (ma_nil) (by decide) (by rfl))) (me_int) (by decide)) (by decide) (fun _ _ => rfl)) (by decide)) (me_ix (me_pv (pv 2)) (me_bin (pe_op op_mod) opm_mod (me_cal (fun ha => pe_callTy call_int1 (by rfl) n_int (by decide +kernel) ha) cm_int (ma_cons (me_pv (pv 5)) (ma_nil) (by decide) (by rfl))) (me_int) (by decide)) (by decide) (fun _ _ => rfl)) (by decide)) (by decide)))) (by decide) (by decide))
      (mb_one (ms_ret (me_pv (pv 3))))))), by decide⟩
theorem sc__law_asked : FnScope ["_law_row", "_law_e"] ["_law_row"] (defScope s__law_asked) := ⟨rfl, rfl, rfl, by decide +kernel, rfl, by decide +kernel, by decide +kernel⟩
theorem ok__law_asked {P : Program} {w : World} {K : PySem.W.Frag} {mg : Str → Option Value} {base : Heap} {f : Addr} {fd : FuncData} (F : FunD K "_law_asked" "_law_asked" (defArgs s__law_asked) (defBody s__law_asked) (defScope s__law_asked) [] [] f fd) (c_ascending : CalOk P w K mg base s_ascending 3 "ascending" ["names"] [] m_ascending) (c__law_error : CalX P w K mg base s__law_error 2 "_law_error" ["_law_e"] [] m__law_error) (xf : XF K mg xtab) :
    FnG P w K mg base 4 f fd ["_law_row"] [] m__law_asked := by
  refine fng_of F sc__law_asked (by decide) (by decide) ?_
  intro cdv A outer s H E hr hgd
  exact ⟨_, _, mb_one (ms_tryAs [] rfl rfl sc__law_asked.nd rfl rfl (by rfl) xf (by decide +kernel) (L2N.takes_of rfl rfl rfl rfl) rfl (by decide) (fun w2 pn xe tk po => mb_one (ms_ret (me_tupO (ma_cons (me_str) (ma_cons (me_callC c_ascending (fun _ _ _ _ _ _ _ us hl => match us, hl with | [_], _ => rfl) hr (by decide) hgd (by rfl) tk (mx_v (me_pv (pv 0)) (mx_nil) (by decide)) rfl rfl (by decide) (by decide)) (ma_nil) (by decide) (by rfl)) (by decide) (by rfl))))) (fun a oe cls d pn x P => mb_one (ms_ret (me_callX rfl rfl P c__law_error (fun _ _ _ _ _ _ _ us hl => match us, hl with | [_], _ => rfl) (roomS hr) (by decide) hgd (by rfl) (pv 1) (mx_nil) rfl rfl (by decide) (by decide))))), by decide⟩
theorem sc__law_texts : FnScope ["_law_store_here", "_law_many", "_law_found", "_law_k", "_law_kind"] ["_law_store_here", "_law_many"] (defScope s__law_texts) := ⟨rfl, rfl, rfl, by decide +kernel, rfl, by decide +kernel, by decide +kernel⟩
theorem ok__law_texts {P : Program} {w : World} {K : PySem.W.Frag} {mg : Str → Option Value} {base : Heap} {f : Addr} {fd : FuncData} (F : FunD K "_law_texts" "_law_texts" (defArgs s__law_texts) (defBody s__law_texts) (defScope s__law_texts) [] [] f fd) (c__law_new_name : CalOk P w K mg base s__law_new_name 4 "_law_new_name" ["_law_store_here", "_law_taken"] [0] m__law_new_name) (c__law_one : CalOk P w K mg base s__law_one 2 "_law_one" ["_law_store_here", "_law_row"] [0] m__law_one) (c__law_take : CalOk P w K mg base s__law_take 1 "_law_take" ["_law_store_here", "_law_many"] [0] m__law_take) (c__law_text : CalOk P w K mg base s__law_text 4 "_law_text" ["_law_store_here", "_law_many"] [0] m__law_text) (c__law_upto : CalOk P w K mg base s__law_upto 3 "_law_upto" ["_law_store_here", "_law_low", "_law_high"] [0] m__law_upto) (n_len : mg "len" = none) (n_range : mg "range" = none) :
    FnG P w K mg base 5 f fd ["_law_store_here", "_law_many"] [0] m__law_texts := by
  refine fng_of F sc__law_texts (by decide) (by decide) ?_
  intro cdv A outer s H E hr hgd
  exact ⟨_, _, mb_cons (ms_asg (fun h => ps_set (i := 2) sc__law_texts.nd rfl (by first | exact Or.inl rfl | exact Or.inr rfl) h) (me_lst (ma_nil)) (by decide))
      (mb_cons (ms_for (passes_of rfl) rfl (mi_range1 (fun ha => pi_range1 (by rfl) n_range ha) (me_callC c__law_upto (fun _ _ _ _ _ _ _ us hl => match us, hl with | [_, _, _], _ => rfl) hr (by decide) hgd (by rfl) (L2N.takes_of rfl rfl rfl rfl) (mx_s (pv 0) (mx_v (me_int) (mx_v (me_pv (pv 1)) (mx_nil) (by decide)) (by decide))) rfl rfl (by decide) (by decide))) (mg_name (pg_name (i := 3) sc__law_texts.nd rfl (by first | exact Or.inl rfl | exact Or.inr rfl))) (mb_cons (ms_asg (fun h => ps_set (i := 4) sc__law_texts.nd rfl (by first | exact Or.inl rfl | exact Or.inr rfl) h) (me_callC c__law_take (fun _ _ _ _ _ _ _ us hl => match us, hl with | [_, _], _ => rfl) hr (by decide) hgd (by rfl) (L2N.takes_of rfl rfl rfl rfl) (mx_s (pv 0) (mx_v (me_int) (mx_nil) (by decide))) rfl rfl (by decide) (by decide)) (by decide))
      (mb_one (ms_if (mw_pt (mw_and (mc_bin (fun ha hb => pt_cmpR (op_eqA (room_64 hr)) ha hb (nomark _)) opm_eq (me_pv (pv 4)) (me_int) (by decide) eqT_bl) (mw_and1 (mc_bin (fun ha hb => pt_cmpR op_gtA ha hb (nomark _)) opm_gt (me_cal (fun ha => pe_callB call_len (by rfl) n_len (by decide +kernel) ha) cm_len (ma_cons (me_pv (pv 2)) (ma_nil) (by decide) (by rfl))) (me_int) (by decide) gtT_bl)))) (mb_one (ms_expr (me_append (fun h => pe_bm PySem.F.plainAttrs_list PySem.F.slot_list_append PySem.F.type_list_append mt_append (pv 2) (pa_cons h pa_nil)) (me_callC c__law_one (fun _ _ _ _ _ _ _ us hl => match us, hl with | [_, _], _ => rfl) hr (by decide) hgd (by rfl) (L2N.takes_of rfl rfl rfl rfl) (mx_s (pv 0) (mx_v (me_pv (pv 2)) (mx_nil) (by decide))) rfl rfl (by decide) (by decide))) (by rfl))) (mb_one (ms_if (mc_bin (fun ha hb => pt_cmpR (op_eqA (room_64 hr)) ha hb (nomark _)) opm_eq (me_pv (pv 4)) (me_int) (by decide) eqT_bl) (mb_one (ms_expr (me_append (fun h => pe_bm PySem.F.plainAttrs_list PySem.F.slot_list_append PySem.F.type_list_append mt_append (pv 2) (pa_cons h pa_nil)) (me_callC c__law_text (fun _ _ _ _ _ _ _ us hl => match us, hl with | [_, _], _ => rfl) hr (by decide) hgd (by rfl) (L2N.takes_of rfl rfl rfl rfl) (mx_s (pv 0) (mx_v (me_int) (mx_nil) (by decide))) rfl rfl (by decide) (by decide))) (by rfl))) (mb_one (ms_expr (me_append (fun h => pe_bm PySem.F.plainAttrs_list PySem.F.slot_list_append PySem.F.type_list_append mt_append (pv 2) (pa_cons h pa_nil)) (me_callC c__law_new_name (fun _ _ _ _ _ _ _ us hl => match us, hl with | [_, _], _ => rfl) hr (by decide) hgd (by rfl) (L2N.takes_of rfl rfl rfl rfl) (mx_s (pv 0) (mx_v (me_pv (pv 2)) (mx_nil) (by decide))) rfl rfl (by decide) (by decide))) (by rfl)))))))) (by decide) (by decide))
      (mb_one (ms_ret (me_pv (pv 2))))), by decide⟩
theorem sc__law_row_right : FnScope ["_law_row", "_law_kept", "_law_double", "_law_turn", "_law_told", "_law_found"] ["_law_row"] (defScope s__law_row_right) := ⟨rfl, rfl, rfl, by decide +kernel, rfl, by decide +kernel, by decide +kernel⟩
theorem ok__law_row_right {P : Program} {w : World} {K : PySem.W.Frag} {mg : Str → Option Value} {base : Heap} {f : Addr} {fd : FuncData} (F : FunD K "_law_row_right" "_law_row_right" (defArgs s__law_row_right) (defBody s__law_row_right) (defScope s__law_row_right) [] [] f fd) (c__law_asked : CalOk P w K mg base s__law_asked 4 "_law_asked" ["_law_row"] [] m__law_asked) (c__law_in_order : CalOk P w K mg base s__law_in_order 1 "_law_in_order" ["_law_told", "_law_row"] [] m__law_in_order) (c__law_same : CalOk P w K mg base s__law_same 1 "_law_same" ["_law_told", "_law_right"] [] m__law_same) (c__law_twice : CalOk P w K mg base s__law_twice 1 "_law_twice" ["_law_row"] [] m__law_twice) (c_first_repeated : CalOk P w K mg base s_first_repeated 1 "first_repeated" ["names"] [] m_first_repeated) (n_range : mg "range" = none) (n_repr : mg "repr" = none) :
    FnG P w K mg base 5 f fd ["_law_row"] [] m__law_row_right := by
  refine fng_of F sc__law_row_right (by decide) (by decide) ?_
  intro cdv A outer s H E hr hgd
  exact ⟨_, _, mb_cons (ms_asg (fun h => ps_set (i := 1) sc__law_row_right.nd rfl (by first | exact Or.inl rfl | exact Or.inr rfl) h) (me_cal (fun ha => pe_callB (cr_repr hgd (room_u hr)) (by rfl) n_repr (by decide +kernel) ha) cm_repr (ma_cons (me_pv (pv 0)) (ma_nil) (by decide) (by rfl))) (by decide))
      (mb_cons (ms_asg (fun h => ps_set (i := 2) sc__law_row_right.nd rfl (by first | exact Or.inl rfl | exact Or.inr rfl) h) (me_callC c__law_twice (fun _ _ _ _ _ _ _ us hl => match us, hl with | [_], _ => rfl) hr (by decide) hgd (by rfl) (L2N.takes_of rfl rfl rfl rfl) (mx_v (me_pv (pv 0)) (mx_nil) (by decide)) rfl rfl (by decide) (by decide)) (by decide))
      (mb_cons (ms_if (mc_not (mc_tru (me_callC c__law_same (fun _ _ _ _ _ _ _ us hl => match us, hl with | [_, _], _ => rfl) hr (by decide) hgd (by rfl) (L2N.takes_of rfl rfl rfl rfl) (mx_v (me_callC c_first_repeated (fun _ _ _ _ _ _ _ us hl => match us, hl with | [_], _ => rfl) hr (by decide) hgd (by rfl) (L2N.takes_of rfl rfl rfl rfl) (mx_v (me_pv (pv 0)) (mx_nil) (by decide)) rfl rfl (by decide) (by decide)) (mx_v (me_pv (pv 2)) (mx_nil) (by decide)) (by decide)) rfl rfl (by decide) (by decide)) (by intro _; rfl))) (mb_one (ms_ret (me_bl))) (mb_nil))
      (mb_cons (ms_for (passes_of rfl) rfl (mi_range1 (fun ha => pi_range1 (by rfl) n_range ha) (me_int)) (mg_name (pg_name (i := 3) sc__law_row_right.nd rfl (by first | exact Or.inl rfl | exact Or.inr rfl))) (mb_cons (ms_asg (fun h => ps_set (i := 4) sc__law_row_right.nd rfl (by first | exact Or.inl rfl | exact Or.inr rfl) h) (me_callC c__law_asked (fun _ _ _ _ _ _ _ us hl => match us, hl with | [_], _ => rfl) hr (by decide) hgd (by rfl) (L2N.takes_of rfl rfl rfl rfl) (mx_v (me_pv (pv 0)) (mx_nil) (by decide)) rfl rfl (by decide) (by decide)) (by decide))
      (mb_cons (ms_if (mc_bin (fun ha hb => pt_cmpR (op_neA (room_64 hr)) ha hb (nomark _)) opm_ne (me_cal (fun ha => pe_callB (cr_repr hgd (room_u hr)) (by rfl) n_repr (by decide +kernel) ha) cm_repr (ma_cons (me_pv (pv 0)) (ma_nil) (by decide) (by rfl))) (me_pv (pv 1)) (by decide) neT_bl) (mb_one (ms_ret (me_bl))) (mb_nil))
      (mb_one (ms_if (mc_bin (fun ha hb => pt_cmpR op_isA ha hb (nomark _)) opm_is (me_pv (pv 2)) (me_non) (by decide) isT_bl) (mb_cons (ms_if (mw_pt (mw_or (mc_bin (fun ha hb => pt_cmpR (op_neA (room_64 hr)) ha hb (nomark _)) opm_ne (me_ix (me_pv (pv 4)) (me_int) (by decide) (fun _ _ => rfl)) (me_str) (by decide) neT_bl) (mw_or1 (mc_not (mc_tru (me_callC c__law_in_order (fun _ _ _ _ _ _ _ us hl => match us, hl with | [_, _], _ => rfl) hr (by decide) hgd (by rfl) (L2N.takes_of rfl rfl rfl rfl) (mx_v (me_ix (me_pv (pv 4)) (me_int) (by decide) (fun _ _ => rfl)) (mx_v (me_pv (pv 0)) (mx_nil) (by decide)) (by decide)) rfl rfl (by decide) (by decide)) (by intro _; rfl)))))) (mb_one (ms_ret (me_bl))) (mb_nil))
      (mb_spend 2 (fun h => ps_set (i := 5) sc__law_row_right.nd rfl (by first | exact Or.inl rfl | exact Or.inr rfl) h) (pe_ix ix_seq (pv 4) pe_int (fun _ _ => rfl)) (mb_cons (ms_expr (me_append (fun h => pe_bm PySem.F.plainAttrs_list PySem.F.slot_list_append PySem.F.type_list_append mt_append (pv 5) (pa_cons h pa_nil)) (me_str)) (by rfl))
      (mb_one (ms_setIx (fun h1 h2 => ps_asg h1 (pg_sub (pv 5) h2 set_list)) (me_str) (me_int))))
      (mb_nil) (by decide) (by decide) rfl rfl)) (mb_one (ms_if (mc_not (mc_tru (me_callC c__law_same (fun _ _ _ _ _ _ _ us hl => match us, hl with | [_, _], _ => rfl) hr (by decide) hgd (by rfl) (L2N.takes_of rfl rfl rfl rfl) (mx_v (me_pv (pv 4)) (mx_v (me_tup (ma_cons (me_str) (ma_cons (me_settle (me_pv (pv 2))) (ma_nil) (by decide) (by rfl)) (by decide) (by rfl))) (mx_nil) (by decide)) (by decide)) rfl rfl (by decide) (by decide)) (by intro _; rfl))) (mb_one (ms_ret (me_bl))) (mb_nil))))))) (by decide) (by decide))
      (mb_one (ms_ret (me_and (me_callC c__law_same (fun _ _ _ _ _ _ _ us hl => match us, hl with | [_, _], _ => rfl) hr (by decide) hgd (by rfl) (L2N.takes_of rfl rfl rfl rfl) (mx_v (me_callK (ks := ["names"]) [0] c_first_repeated (fun _ _ _ _ _ _ _ ws hl => match ws, hl with | [_], _ => rfl) hr (by decide) hgd (by rfl) (L2N.takes_of rfl rfl rfl rfl) (mxk_v (me_pv (pv 0)) (mxk_nil) (by decide)) rfl rfl rfl (by decide)) (mx_v (me_pv (pv 2)) (mx_nil) (by decide)) (by decide)) rfl rfl (by decide) (by decide)) (me_one (me_bin (fun ha hb => pe_cmpR (op_eqA (room_64 hr)) ha hb (nomark _)) opm_eq (me_cal (fun ha => pe_callB (cr_repr hgd (room_u hr)) (by rfl) n_repr (by decide +kernel) ha) cm_repr (ma_cons (me_pv (pv 0)) (ma_nil) (by decide) (by rfl))) (me_pv (pv 1)) (by decide))))))))), by decide⟩
theorem sc_law : FnScope ["_law_script", "_law_store_here", "_law_many", "_law_row", "_law_back", "_law_told", "_law_e", "_law_word", "_law_at", "_law_k"] ["_law_script"] (defScope s_law) := ⟨rfl, rfl, rfl, by decide +kernel, rfl, by decide +kernel, by decide +kernel⟩
theorem ok_law {P : Program} {w : World} {K : PySem.W.Frag} {mg : Str → Option Value} {base : Heap} {f : Addr} {fd : FuncData} (F : FunD K "law" "law" (defArgs s_law) (defBody s_law) (defScope s_law) [] [] f fd) (c__law_in_order : CalOk P w K mg base s__law_in_order 1 "_law_in_order" ["_law_told", "_law_row"] [] m__law_in_order) (c__law_one : CalOk P w K mg base s__law_one 2 "_law_one" ["_law_store_here", "_law_row"] [0] m__law_one) (c__law_row_right : CalOk P w K mg base s__law_row_right 5 "_law_row_right" ["_law_row"] [] m__law_row_right) (c__law_seq : CalOk P w K mg base s__law_seq 2 "_law_seq" ["_law_store_here", "_law_row"] [0] m__law_seq) (c__law_store : CalOk P w K mg base s__law_store 1 "_law_store" ["_law_script"] [] m__law_store) (c__law_take : CalOk P w K mg base s__law_take 1 "_law_take" ["_law_store_here", "_law_many"] [0] m__law_take) (c__law_texts : CalOk P w K mg base s__law_texts 5 "_law_texts" ["_law_store_here", "_law_many"] [0] m__law_texts) (c__law_twice : CalOk P w K mg base s__law_twice 1 "_law_twice" ["_law_row"] [] m__law_twice) (c_ascending : CalOk P w K mg base s_ascending 3 "ascending" ["names"] [] m_ascending) (n_len : mg "len" = none) (n_max : mg "max" = none) (n_range : mg "range" = none) (n_tuple : mg "tuple" = none) (h__law_same : CalY P w K mg base s__law_same 1 "_law_same" ["_law_told", "_law_right"] [] m__law_same) (h__law_twice : CalY P w K mg base s__law_twice 1 "_law_twice" ["_law_row"] [] m__law_twice) (xf : XF K mg xtab) :
    FnG P w K mg base 6 f fd ["_law_script"] [] m_law := by
  refine fng_of F sc_law (by decide) (by decide) ?_
  intro cdv A outer s H E hr hgd
  exact ⟨_, _, mb_cons (ms_asg (fun h => ps_set (i := 1) sc_law.nd rfl (by first | exact Or.inl rfl | exact Or.inr rfl) h) (me_callC c__law_store (fun _ _ _ _ _ _ _ us hl => match us, hl with | [_], _ => rfl) hr (by decide) hgd (by rfl) (L2N.takes_of rfl rfl rfl rfl) (mx_v (me_pv (pv 0)) (mx_nil) (by decide)) rfl rfl (by decide) (by decide)) (by decide))
      (mb_cons (ms_asg (fun h => ps_set (i := 2) sc_law.nd rfl (by first | exact Or.inl rfl | exact Or.inr rfl) h) (me_int) (by decide))
      (mb_cons (ms_if (mc_bin (fun ha hb => pt_cmpR (op_eqA (room_64 hr)) ha hb (nomark _)) opm_eq (me_callC c__law_take (fun _ _ _ _ _ _ _ us hl => match us, hl with | [_, _], _ => rfl) hr (by decide) hgd (by rfl) (L2N.takes_of rfl rfl rfl rfl) (mx_s (pv 1) (mx_v (me_int) (mx_nil) (by decide))) rfl rfl (by decide) (by decide)) (me_int) (by decide) eqT_bl) (mb_one (ms_asg (fun h => ps_set (i := 2) sc_law.nd rfl (by first | exact Or.inl rfl | exact Or.inr rfl) h) (me_int) (by decide))) (mb_nil))
      (mb_cons (ms_asg (fun h => ps_set (i := 3) sc_law.nd rfl (by first | exact Or.inl rfl | exact Or.inr rfl) h) (me_callC c__law_texts (fun _ _ _ _ _ _ _ us hl => match us, hl with | [_, _], _ => rfl) hr (by decide) hgd (by rfl) (L2N.takes_of rfl rfl rfl rfl) (mx_s (pv 1) (mx_v (me_pv (pv 2)) (mx_nil) (by decide))) rfl rfl (by decide) (by decide)) (by decide))
      (mb_cons (ms_if (mc_bin (fun ha hb => pt_cmpR (op_eqA (room_64 hr)) ha hb (nomark _)) opm_eq (me_callC c__law_take (fun _ _ _ _ _ _ _ us hl => match us, hl with | [_, _], _ => rfl) hr (by decide) hgd (by rfl) (L2N.takes_of rfl rfl rfl rfl) (mx_s (pv 1) (mx_v (me_int) (mx_nil) (by decide))) rfl rfl (by decide) (by decide)) (me_int) (by decide) eqT_bl) (mb_one (ms_asg (fun h => ps_set (i := 3) sc_law.nd rfl (by first | exact Or.inl rfl | exact Or.inr rfl) h) (me_lc (own := [("_law_k", 9)]) rfl sc_law.nd (blkOk_by (own := [("_law_k", 9)]) (N := ["_law_script", "_law_store_here", "_law_many", "_law_row", "_law_back", "_law_told", "_law_e", "_law_word", "_law_at", "_law_k"]) (sc := defScope s_law) (by decide +kernel)) (mi_range1 (fun ha => pi_range1 (by rfl) n_range ha) (me_cal (fun ha => pe_callB call_len (by rfl) n_len (by decide +kernel) ha) cm_len (ma_cons (me_pv (pv 3)) (ma_nil) (by decide) (by rfl)))) (fun _ _ _ _ _ => mg_name (pg_name (i := 9) sc_law.nd rfl (by first | exact Or.inl rfl | exact Or.inr rfl))) (fun _ _ _ _ _ => pts_if (mc_bin (fun ha hb => pt_cmpR (op_ninA (room_65 hr)) ha hb (by rfl)) opm_nin (me_ix (me_pv (pv 3)) (me_pv (pv 9)) (by decide) (fun _ _ => rfl)) (me_slice (me_pv (pv 3)) (mo_none) (mo_some (me_pv (pv 9))) (by decide)) (by decide) ninT_bl)) (fun _ _ _ _ _ => me_settle (me_ix (me_pv (pv 3)) (me_pv (pv 9)) (by decide) (fun _ _ => rfl))) (by decide) (by decide)) (by decide))) (mb_nil))
      (mb_cons (ms_if (mw_pt (mw_or (mc_not (mc_tru (me_callC c__law_row_right (fun _ _ _ _ _ _ _ us hl => match us, hl with | [_], _ => rfl) hr (by decide) hgd (by rfl) (L2N.takes_of rfl rfl rfl rfl) (mx_v (me_callC c__law_seq (fun _ _ _ _ _ _ _ us hl => match us, hl with | [_, _], _ => rfl) hr (by decide) hgd (by rfl) (L2N.takes_of rfl rfl rfl rfl) (mx_s (pv 1) (mx_v (me_pv (pv 3)) (mx_nil) (by decide))) rfl rfl (by decide) (by decide)) (mx_nil) (by decide)) rfl rfl (by decide) (by decide)) (by intro _; rfl))) (mw_or1 (mc_not (mc_tru (me_callC c__law_row_right (fun _ _ _ _ _ _ _ us hl => match us, hl with | [_], _ => rfl) hr (by decide) hgd (by rfl) (L2N.takes_of rfl rfl rfl rfl) (mx_v (me_pv (pv 3)) (mx_nil) (by decide)) rfl rfl (by decide) (by decide)) (by intro _; rfl)))))) (mb_one (ms_ret (me_bl))) (mb_nil))
      (mb_cons (ms_if (mc_bin (fun ha hb => pt_cmpR op_gtA ha hb (nomark _)) opm_gt (me_cal (fun ha => pe_callB call_len (by rfl) n_len (by decide +kernel) ha) cm_len (ma_cons (me_pv (pv 3)) (ma_nil) (by decide) (by rfl))) (me_int) (by decide) gtT_bl) (mb_cons (ms_asg (fun h => ps_set (i := 7) sc_law.nd rfl (by first | exact Or.inl rfl | exact Or.inr rfl) h) (me_callC c__law_one (fun _ _ _ _ _ _ _ us hl => match us, hl with | [_, _], _ => rfl) hr (by decide) hgd (by rfl) (L2N.takes_of rfl rfl rfl rfl) (mx_s (pv 1) (mx_v (me_pv (pv 3)) (mx_nil) (by decide))) rfl rfl (by decide) (by decide)) (by decide))
      (mb_cons (ms_expr (me_insert (fun h1 h2 => pe_bm PySem.F.plainAttrs_list PySem.F.slot_list_insert PySem.F.type_list_insert mt_insert (pv 3) (pa_cons h1 (pa_cons h2 pa_nil))) (me_callC c__law_take (fun _ _ _ _ _ _ _ us hl => match us, hl with | [_, _], _ => rfl) hr (by decide) hgd (by rfl) (L2N.takes_of rfl rfl rfl rfl) (mx_s (pv 1) (mx_v (me_bin (pe_op op_addA) opm_add (me_cal (fun ha => pe_callB call_len (by rfl) n_len (by decide +kernel) ha) cm_len (ma_cons (me_pv (pv 3)) (ma_nil) (by decide) (by rfl))) (me_int) (by decide)) (mx_nil) (by decide))) rfl rfl (by decide) (by decide)) (me_bin (pe_op op_addA) opm_add (me_pv (pv 7)) (me_str) (by decide))) (by rfl))
      (mb_cons (ms_if (mc_not (mc_tru (me_callC c__law_row_right (fun _ _ _ _ _ _ _ us hl => match us, hl with | [_], _ => rfl) hr (by decide) hgd (by rfl) (L2N.takes_of rfl rfl rfl rfl) (mx_v (me_pv (pv 3)) (mx_nil) (by decide)) rfl rfl (by decide) (by decide)) (by intro _; rfl))) (mb_one (ms_ret (me_bl))) (mb_nil))
      (mb_cons (ms_expr (me_append (fun h => pe_bm PySem.F.plainAttrs_list PySem.F.slot_list_append PySem.F.type_list_append mt_append (pv 3) (pa_cons h pa_nil)) (me_slice (me_pv (pv 7)) (mo_none) (mo_some (me_cal (fun ha => pe_callB (call_max2 rfl) (by rfl) n_max (by decide +kernel) ha) cm_max (ma_cons (me_int) (ma_cons (me_bin (pe_op op_sub) opm_sub (me_cal (fun ha => pe_callB call_len (by rfl) n_len (by decide +kernel) ha) cm_len (ma_cons (me_pv (pv 7)) (ma_nil) (by decide) (by rfl))) (me_int) (by decide)) (ma_nil) (by decide) (by rfl)) (by decide) (by rfl)))) (by decide))) (by rfl))
      (mb_cons (ms_if (mc_not (mc_tru (me_callC c__law_row_right (fun _ _ _ _ _ _ _ us hl => match us, hl with | [_], _ => rfl) hr (by decide) hgd (by rfl) (L2N.takes_of rfl rfl rfl rfl) (mx_v (me_pv (pv 3)) (mx_nil) (by decide)) rfl rfl (by decide) (by decide)) (by intro _; rfl))) (mb_one (ms_ret (me_bl))) (mb_nil))
      (mb_cons (ms_asg (fun h => ps_set (i := 8) sc_law.nd rfl (by first | exact Or.inl rfl | exact Or.inr rfl) h) (me_callC c__law_take (fun _ _ _ _ _ _ _ us hl => match us, hl with | [_, _], _ => rfl) hr (by decide) hgd (by rfl) (L2N.takes_of rfl rfl rfl rfl) (mx_s (pv 1) (mx_v (me_bin (pe_op op_addA) opm_add (me_cal (fun ha => pe_callB call_len (by rfl) n_len (by decide +kernel) ha) cm_len (ma_cons (me_pv (pv 3)) (ma_nil) (by decide) (by rfl))) (me_int) (by decide)) (mx_nil) (by decide))) rfl rfl (by decide) (by decide)) (by decide))
      (mb_cons (ms_expr (me_insert (fun h1 h2 => pe_bm PySem.F.plainAttrs_list PySem.F.slot_list_insert PySem.F.type_list_insert mt_insert (pv 3) (pa_cons h1 (pa_cons h2 pa_nil))) (me_pv (pv 8)) (me_callC c__law_one (fun _ _ _ _ _ _ _ us hl => match us, hl with | [_, _], _ => rfl) hr (by decide) hgd (by rfl) (L2N.takes_of rfl rfl rfl rfl) (mx_s (pv 1) (mx_v (me_pv (pv 3)) (mx_nil) (by decide))) rfl rfl (by decide) (by decide))) (by rfl))
      (mb_cons (ms_if (mw_pt (mw_or (mc_not (mc_tru (me_callC c__law_row_right (fun _ _ _ _ _ _ _ us hl => match us, hl with | [_], _ => rfl) hr (by decide) hgd (by rfl) (L2N.takes_of rfl rfl rfl rfl) (mx_v (me_pv (pv 3)) (mx_nil) (by decide)) rfl rfl (by decide) (by decide)) (by intro _; rfl))) (mw_or1 (mc_not (mc_tru (me_callC c__law_row_right (fun _ _ _ _ _ _ _ us hl => match us, hl with | [_], _ => rfl) hr (by decide) hgd (by rfl) (L2N.takes_of rfl rfl rfl rfl) (mx_v (me_cal (fun ha => pe_callTy call_tuple_ofX (by rfl) n_tuple (by decide +kernel) ha) cm_tup (ma_cons (me_pv (pv 3)) (ma_nil) (by decide) (by rfl))) (mx_nil) (by decide)) rfl rfl (by decide) (by decide)) (by intro _; rfl)))))) (mb_one (ms_ret (me_bl))) (mb_nil))
      (mb_one (ms_expr (me_popAt (fun h => pe_bm PySem.F.plainAttrs_list PySem.F.slot_list_pop PySem.F.type_list_pop mt_popAt (pv 3) (pa_cons h pa_nil)) (me_pv (pv 8))) (by rfl))))))))))) (mb_nil))
      (mb_cons (ms_setLc (i := 4) (own := [("_law_k", 9)]) rfl sc_law.nd rfl rfl (sw_true rfl rfl rfl (by decide +kernel)) (blkOk_by (own := [("_law_k", 9)]) (N := ["_law_script", "_law_store_here", "_law_many", "_law_row", "_law_back", "_law_told", "_law_e", "_law_word", "_law_at", "_law_k"]) (sc := defScope s_law) (by decide +kernel)) (mi_range1 (fun ha => pi_range1 (by rfl) n_range ha) (me_cal (fun ha => pe_callB call_len (by rfl) n_len (by decide +kernel) ha) cm_len (ma_cons (me_pv (pv 3)) (ma_nil) (by decide) (by rfl)))) (fun _ _ _ _ _ => mg_name (pg_name (i := 9) sc_law.nd rfl (by first | exact Or.inl rfl | exact Or.inr rfl))) (fun _ _ _ _ _ => pts_yes) (fun _ _ _ _ _ => me_settle (me_ix (me_pv (pv 3)) (me_bin (pe_op op_sub) opm_sub (me_bin (pe_op op_sub) opm_sub (me_cal (fun ha => pe_callB call_len (by rfl) n_len (by decide +kernel) ha) cm_len (ma_cons (me_pv (pv 3)) (ma_nil) (by decide) (by rfl))) (me_int) (by decide)) (me_pv (pv 9)) (by decide)) (by decide) (fun _ _ => rfl))) (by decide) (by decide) (by decide))
      (mb_cons (ms_if (mw_pt (mw_or (mc_not (mc_tru (me_callC c__law_row_right (fun _ _ _ _ _ _ _ us hl => match us, hl with | [_], _ => rfl) hr (by decide) hgd (by rfl) (L2N.takes_of rfl rfl rfl rfl) (mx_v (me_pv (pv 3)) (mx_nil) (by decide)) rfl rfl (by decide) (by decide)) (by intro _; rfl))) (mw_or1 (mc_not (mc_tru (me_callC c__law_row_right (fun _ _ _ _ _ _ _ us hl => match us, hl with | [_], _ => rfl) hr (by decide) hgd (by rfl) (L2N.takes_of rfl rfl rfl rfl) (mx_v (me_pv (pv 4)) (mx_nil) (by decide)) rfl rfl (by decide) (by decide)) (by intro _; rfl)))))) (mb_one (ms_ret (me_bl))) (mb_nil))
      (mb_cons (ms_asg (fun h => ps_set (i := 5) sc_law.nd rfl (by first | exact Or.inl rfl | exact Or.inr rfl) h) (me_lst (ma_nil)) (by decide))
      (mb_cons (ms_tryAs ["name"] rfl rfl sc_law.nd rfl rfl (by rfl) xf (by decide +kernel) (L2N.takes_of rfl rfl rfl rfl) rfl (by decide) (fun w2 pn xe tk po => mb_one (ms_asg (fun h => ps_set (i := 5) sc_law.nd rfl (by first | exact Or.inl rfl | exact Or.inr rfl) h) (me_callK (ks := ["names"]) [0] c_ascending (fun _ _ _ _ _ _ _ ws hl => match ws, hl with | [_], _ => rfl) hr (by decide) hgd (by rfl) tk (mxk_v (me_pv (pv 3)) (mxk_nil) (by decide)) rfl rfl rfl (by decide)) (by decide))) (fun a oe cls d pn x P => mb_one (ms_ret (me_callY rfl rfl P h__law_same (fun _ _ _ _ _ _ _ us hl => match us, hl with | [_, _], _ => rfl) (roomS hr) (by decide) hgd (by rfl) (mx_v (me_xf rfl P xf (pv 6)) (mx_v (me_callY rfl rfl P h__law_twice (fun _ _ _ _ _ _ _ us hl => match us, hl with | [_], _ => rfl) (roomS hr) (by decide) hgd (by rfl) (mx_v (me_pv (pv 3)) (mx_nil) (by decide)) rfl rfl (fun _ _ z => nomatch z) List.nodup_nil) (mx_nil) (by decide)) (by decide)) rfl rfl (fun _ _ z => nomatch z) List.nodup_nil))))
      (mb_one (ms_ret (me_and (me_bin (fun ha hb => pe_cmpR op_isA ha hb (nomark _)) opm_is (me_callC c__law_twice (fun _ _ _ _ _ _ _ us hl => match us, hl with | [_], _ => rfl) hr (by decide) hgd (by rfl) (L2N.takes_of rfl rfl rfl rfl) (mx_v (me_pv (pv 3)) (mx_nil) (by decide)) rfl rfl (by decide) (by decide)) (me_non) (by decide)) (me_one (me_callC c__law_in_order (fun _ _ _ _ _ _ _ us hl => match us, hl with | [_, _], _ => rfl) hr (by decide) hgd (by rfl) (L2N.takes_of rfl rfl rfl rfl) (mx_v (me_pv (pv 5)) (mx_v (me_pv (pv 3)) (mx_nil) (by decide)) (by decide)) rfl rfl (by decide) (by decide)))))))))))))))), by decide⟩
theorem sci_Repeated : FnScope ["self", "name"] ["self", "name"] (defScope i_Repeated) := ⟨rfl, rfl, rfl, by decide +kernel, rfl, by decide +kernel, by decide +kernel⟩
theorem ini_Repeated {P : Program} {w : World} {K : PySem.W.Frag} {mg : Str → Option Value} {base : Heap} {f : Addr} {fd : FuncData} (F : FunD K "__init__" "Repeated.__init__" (defArgs i_Repeated) (defBody i_Repeated) (defScope i_Repeated) [] [] f fd) : FnOk P w K mg base CX0 1 f fd ["self", "name"] (spIni K ["name"]) :=
  F.ok sci_Repeated (spIni_len rfl) fun cdv A outer s H vs Q E hr h => ⟨_, pss_one (ps_ost (pv 0) (pv 1)), ini_rd1 h⟩
theorem facts {P : Program} {w : World} {K : PySem.W.Frag} {h : Heap} {mg : Str → Option Value} {f : Addr} (X : K.In h) (G : h.Ns mainGlobals mg) (hfa : mg ("law" : Str) = some (.ref f)) (c : He.SaysD fa fn K) (cx : xfB xtab K = true) :
    ∃ fd : FuncData, (∀ (s : Shared) (v : Value), BindsTo s fd ⟨[v], []⟩ [("_law_script", v)]) ∧ ∀ base : Heap, K.In base → base.Ns mainGlobals mg → FnG P w K mg base 6 f fd ["_law_script"] [] m_law := by
  obtain ⟨fd_first_repeated, F_first_repeated⟩ := c.def_ 0 (d := d_first_repeated) rfl
  obtain ⟨fd_ascending, F_ascending⟩ := c.def_ 1 (d := d_ascending) rfl
  obtain ⟨fd__law_store, F__law_store⟩ := c.def_ 2 (d := d__law_store) rfl
  obtain ⟨fd__law_take, F__law_take⟩ := c.def_ 3 (d := d__law_take) rfl
  obtain ⟨fd__law_range, F__law_range⟩ := c.def_ 4 (d := d__law_range) rfl
  obtain ⟨fd__law_upto, F__law_upto⟩ := c.def_ 5 (d := d__law_upto) rfl
  obtain ⟨fd__law_seldom, F__law_seldom⟩ := c.def_ 6 (d := d__law_seldom) rfl
  obtain ⟨fd__law_one, F__law_one⟩ := c.def_ 7 (d := d__law_one) rfl
  obtain ⟨fd__law_seq, F__law_seq⟩ := c.def_ 8 (d := d__law_seq) rfl
  obtain ⟨fd__law_text, F__law_text⟩ := c.def_ 9 (d := d__law_text) rfl
  obtain ⟨fd__law_name, F__law_name⟩ := c.def_ 10 (d := d__law_name) rfl
  obtain ⟨fd__law_new_name, F__law_new_name⟩ := c.def_ 11 (d := d__law_new_name) rfl
  obtain ⟨fd__law_texts, F__law_texts⟩ := c.def_ 12 (d := d__law_texts) rfl
  obtain ⟨fd__law_same, F__law_same⟩ := c.def_ 13 (d := d__law_same) rfl
  obtain ⟨fd__law_error, F__law_error⟩ := c.def_ 14 (d := d__law_error) rfl
  obtain ⟨fd__law_error_more, F__law_error_more⟩ := c.def_ 15 (d := d__law_error_more) rfl
  obtain ⟨fd__law_twice, F__law_twice⟩ := c.def_ 16 (d := d__law_twice) rfl
  obtain ⟨fd__law_asked, F__law_asked⟩ := c.def_ 17 (d := d__law_asked) rfl
  obtain ⟨fd__law_in_order, F__law_in_order⟩ := c.def_ 18 (d := d__law_in_order) rfl
  obtain ⟨fd__law_row_right, F__law_row_right⟩ := c.def_ 19 (d := d__law_row_right) rfl
  obtain ⟨fd_law, F_law⟩ := c.def_ 20 (d := d_law) rfl
  have gg_first_repeated := He.glo_ok X G (c.fact 0 (f := .glo "first_repeated") rfl)
  have gg_ascending := He.glo_ok X G (c.fact 1 (f := .glo "ascending") rfl)
  have gg__law_store := He.glo_ok X G (c.fact 2 (f := .glo "_law_store") rfl)
  have gg__law_take := He.glo_ok X G (c.fact 3 (f := .glo "_law_take") rfl)
  have gg__law_range := He.glo_ok X G (c.fact 4 (f := .glo "_law_range") rfl)
  have gg__law_upto := He.glo_ok X G (c.fact 5 (f := .glo "_law_upto") rfl)
  have gg__law_seldom := He.glo_ok X G (c.fact 6 (f := .glo "_law_seldom") rfl)
  have gg__law_one := He.glo_ok X G (c.fact 7 (f := .glo "_law_one") rfl)
  have gg__law_seq := He.glo_ok X G (c.fact 8 (f := .glo "_law_seq") rfl)
  have gg__law_text := He.glo_ok X G (c.fact 9 (f := .glo "_law_text") rfl)
  have gg__law_name := He.glo_ok X G (c.fact 10 (f := .glo "_law_name") rfl)
  have gg__law_new_name := He.glo_ok X G (c.fact 11 (f := .glo "_law_new_name") rfl)
  have gg__law_texts := He.glo_ok X G (c.fact 12 (f := .glo "_law_texts") rfl)
  have gg__law_same := He.glo_ok X G (c.fact 13 (f := .glo "_law_same") rfl)
  have gg__law_error := He.glo_ok X G (c.fact 14 (f := .glo "_law_error") rfl)
  have gg__law_error_more := He.glo_ok X G (c.fact 15 (f := .glo "_law_error_more") rfl)
  have gg__law_twice := He.glo_ok X G (c.fact 16 (f := .glo "_law_twice") rfl)
  have gg__law_asked := He.glo_ok X G (c.fact 17 (f := .glo "_law_asked") rfl)
  have gg__law_in_order := He.glo_ok X G (c.fact 18 (f := .glo "_law_in_order") rfl)
  have gg__law_row_right := He.glo_ok X G (c.fact 19 (f := .glo "_law_row_right") rfl)
  have gg_law := He.glo_ok X G (c.fact 20 (f := .glo "law") rfl)
  have n_ValueError := He.free_ok X G (c.fact 21 (f := .free "ValueError") rfl)
  have n_bool := He.free_ok X G (c.fact 22 (f := .free "bool") rfl)
  have n_int := He.free_ok X G (c.fact 23 (f := .free "int") rfl)
  have n_isinstance := He.free_ok X G (c.fact 24 (f := .free "isinstance") rfl)
  have n_len := He.free_ok X G (c.fact 25 (f := .free "len") rfl)
  have n_list := He.free_ok X G (c.fact 26 (f := .free "list") rfl)
  have n_max := He.free_ok X G (c.fact 27 (f := .free "max") rfl)
  have n_min := He.free_ok X G (c.fact 28 (f := .free "min") rfl)
  have n_range := He.free_ok X G (c.fact 29 (f := .free "range") rfl)
  have n_repr := He.free_ok X G (c.fact 30 (f := .free "repr") rfl)
  have n_sorted := He.free_ok X G (c.fact 31 (f := .free "sorted") rfl)
  have n_str := He.free_ok X G (c.fact 32 (f := .free "str") rfl)
  have n_tuple := He.free_ok X G (c.fact 33 (f := .free "tuple") rfl)
  have gg_Repeated := He.glo_ok X G (c.fact 34 (f := .glo "Repeated") rfl)
  have xf : XF K mg xtab := xfB_ok X G cx
  obtain ⟨fdi_Repeated, Fi_Repeated⟩ := c.def_ 21 (d := di_Repeated) rfl
  have mt_Repeated := He.meth_ok (c.fact 35 (f := .meth "Repeated" "__init__") rfl)
  have mk_Repeated : ∀ base : Heap, MakOk P w K mg base "Repeated" ["name"] := fun base => by
    obtain ⟨C, m1, EF, nf⟩ := xf.cls ("Repeated", ["name"]) (by decide +kernel)
    have eC : C = He.ga K "Repeated" := by
      have h2 := He.glo_ok X G (c.fact 34 (f := .glo "Repeated") rfl)
      rw [m1] at h2
      cases h2
      rfl
    subst eC
    exact ⟨_, _, fdi_Repeated, _, m1, EF.ox, nf, mt_Repeated.at_, by simpa [PySem.W.isFn] using mt_Repeated.fn, ini_Repeated Fi_Repeated, FunD.bindsN Fi_Repeated fun _ _ _ _ _ _ us hl => match us, hl with | [_, _], _ => rfl⟩
  have e := hfa.symm.trans gg_law
  cases e
  have b := FunD.bindsA (ps := ["_law_script"]) F_law fun _ _ _ _ _ _ us hl => match us, hl with | [_], _ => rfl
  refine ⟨fd_law, fun s v => b s [v] rfl, fun base _ _ => ?_⟩
  have c_first_repeated : CalOk P w K mg base s_first_repeated 1 "first_repeated" ["names"] [] m_first_repeated := ⟨_, _, ok_first_repeated F_first_repeated , gg_first_repeated, _, F_first_repeated⟩
  have c__law_store : CalOk P w K mg base s__law_store 1 "_law_store" ["_law_script"] [] m__law_store := ⟨_, _, ok__law_store F__law_store n_int, gg__law_store, _, F__law_store⟩
  have c__law_take : CalOk P w K mg base s__law_take 1 "_law_take" ["_law_store_here", "_law_many"] [0] m__law_take := ⟨_, _, ok__law_take F__law_take n_int n_len, gg__law_take, _, F__law_take⟩
  have c__law_same : CalOk P w K mg base s__law_same 1 "_law_same" ["_law_told", "_law_right"] [] m__law_same := ⟨_, _, ok__law_same F__law_same n_bool n_int n_isinstance n_len n_list n_range n_str n_tuple, gg__law_same, _, F__law_same⟩
  have h__law_same : CalY P w K mg base s__law_same 1 "_law_same" ["_law_told", "_law_right"] [] m__law_same := ⟨_, _, okh__law_same F__law_same n_bool n_int n_isinstance n_len n_list n_range n_str n_tuple, gg__law_same, _, F__law_same⟩
  have c__law_error_more : CalX P w K mg base s__law_error_more 1 "_law_error_more" ["_law_e", "_law_found"] [1] m__law_error_more := ⟨_, _, ok__law_error_more F__law_error_more n_ValueError n_isinstance n_len xf, gg__law_error_more, _, F__law_error_more⟩
  have c__law_twice : CalOk P w K mg base s__law_twice 1 "_law_twice" ["_law_row"] [] m__law_twice := ⟨_, _, ok__law_twice F__law_twice n_len n_range, gg__law_twice, _, F__law_twice⟩
  have h__law_twice : CalY P w K mg base s__law_twice 1 "_law_twice" ["_law_row"] [] m__law_twice := ⟨_, _, okh__law_twice F__law_twice n_len n_range, gg__law_twice, _, F__law_twice⟩
  have c__law_in_order : CalOk P w K mg base s__law_in_order 1 "_law_in_order" ["_law_told", "_law_row"] [] m__law_in_order := ⟨_, _, ok__law_in_order F__law_in_order n_isinstance n_len n_list n_range n_str, gg__law_in_order, _, F__law_in_order⟩
  have c__law_range : CalOk P w K mg base s__law_range 2 "_law_range" ["_law_store_here", "_law_low", "_law_high"] [0] m__law_range := ⟨_, _, ok__law_range F__law_range c__law_take, gg__law_range, _, F__law_range⟩
  have c__law_seldom : CalOk P w K mg base s__law_seldom 2 "_law_seldom" ["_law_store_here", "_law_many"] [0] m__law_seldom := ⟨_, _, ok__law_seldom F__law_seldom c__law_take, gg__law_seldom, _, F__law_seldom⟩
  have c__law_one : CalOk P w K mg base s__law_one 2 "_law_one" ["_law_store_here", "_law_row"] [0] m__law_one := ⟨_, _, ok__law_one F__law_one c__law_take n_len, gg__law_one, _, F__law_one⟩
  have c__law_seq : CalOk P w K mg base s__law_seq 2 "_law_seq" ["_law_store_here", "_law_row"] [0] m__law_seq := ⟨_, _, ok__law_seq F__law_seq c__law_take n_list n_tuple, gg__law_seq, _, F__law_seq⟩
  have c__law_error : CalX P w K mg base s__law_error 2 "_law_error" ["_law_e"] [] m__law_error := ⟨_, _, ok__law_error F__law_error n_isinstance c__law_error_more xf, gg__law_error, _, F__law_error⟩
  have c_ascending : CalOk P w K mg base s_ascending 3 "ascending" ["names"] [] m_ascending := ⟨_, _, ok_ascending F_ascending c_first_repeated n_sorted (mk_Repeated base), gg_ascending, _, F_ascending⟩
  have c__law_upto : CalOk P w K mg base s__law_upto 3 "_law_upto" ["_law_store_here", "_law_low", "_law_high"] [0] m__law_upto := ⟨_, _, ok__law_upto F__law_upto c__law_range c__law_take n_max, gg__law_upto, _, F__law_upto⟩
  have c__law_name : CalOk P w K mg base s__law_name 3 "_law_name" ["_law_store_here"] [0] m__law_name := ⟨_, _, ok__law_name F__law_name c__law_one c__law_range c__law_take n_range, gg__law_name, _, F__law_name⟩
  have c__law_text : CalOk P w K mg base s__law_text 4 "_law_text" ["_law_store_here", "_law_many"] [0] m__law_text := ⟨_, _, ok__law_text F__law_text c__law_seldom c__law_take c__law_upto n_len n_min n_range, gg__law_text, _, F__law_text⟩
  have c__law_new_name : CalOk P w K mg base s__law_new_name 4 "_law_new_name" ["_law_store_here", "_law_taken"] [0] m__law_new_name := ⟨_, _, ok__law_new_name F__law_new_name c__law_name n_int n_len n_range, gg__law_new_name, _, F__law_new_name⟩
  have c__law_asked : CalOk P w K mg base s__law_asked 4 "_law_asked" ["_law_row"] [] m__law_asked := ⟨_, _, ok__law_asked F__law_asked c_ascending c__law_error xf, gg__law_asked, _, F__law_asked⟩
  have c__law_texts : CalOk P w K mg base s__law_texts 5 "_law_texts" ["_law_store_here", "_law_many"] [0] m__law_texts := ⟨_, _, ok__law_texts F__law_texts c__law_new_name c__law_one c__law_take c__law_text c__law_upto n_len n_range, gg__law_texts, _, F__law_texts⟩
  have c__law_row_right : CalOk P w K mg base s__law_row_right 5 "_law_row_right" ["_law_row"] [] m__law_row_right := ⟨_, _, ok__law_row_right F__law_row_right c__law_asked c__law_in_order c__law_same c__law_twice c_first_repeated n_range n_repr, gg__law_row_right, _, F__law_row_right⟩
  exact ok_law F_law c__law_in_order c__law_one c__law_row_right c__law_seq c__law_store c__law_take c__law_texts c__law_twice c_ascending n_len n_max n_range n_tuple h__law_same h__law_twice xf
end Mir
open PySem PySem.W PySem.Calls PyProof.Rows
theorem PySem.Challenge.cw_turnbehind_k02_sorted_or_repeated_holds : PySem.Challenge.rw_turnbehind_k02_sorted_or_repeated.Holds := by
  w_on; o_law
  refine HandSHeadRun.head_any (r := PySem.W.OpenLaw.row PySem.Challenge.rw_turnbehind_k02_sorted_or_repeated) (q := PySem.W.view (PySem.W.OpenLaw.row PySem.Challenge.rw_turnbehind_k02_sorted_or_repeated).prog [41]) (H := Hd.hk) (ob := Hd.ob) (M := 40000) (loose := Hd.loose) (d := HandSHeadRun.topDef (PySem.W.OpenLaw.row PySem.Challenge.rw_turnbehind_k02_sorted_or_repeated).prog 41) (kwd := []) Hd.ob_eq
    (by kernel_rfl) (fun s => by kernel_rfl) Hd.run (by kernel_rfl) (by kernel_rfl) (by kernel_rfl) (by rfl) (by first | assumption | decide +kernel) (by decide +kernel) ⟨rfl, rfl, rfl, rfl, rfl, by decide +kernel⟩ ?hw ?hc
  case hw => w_witness2
  case hc =>
    refine Mir.law_end (n := 63) (k := 6) (x := "_law_script") (m := Mir.m_law) rfl (by decide) (by kernel_rfl) (Mir.room_caller.mono (by decide)) ?F Mir.says
    intro w mg fa h Y G hmg0
    obtain ⟨K, KX, c, cx⟩ := Y
    have hmg : mg ("law" : PySem.Str) = some (.ref fa) := by
      have e : (HandSHeadRun.topDef (PySem.W.OpenLaw.row PySem.Challenge.rw_turnbehind_k02_sorted_or_repeated).prog 41).name = ("law" : PySem.Str) := by kernel_rfl
      rw [← e]
      exact hmg0
    obtain ⟨fd, hb, hF⟩ := Mir.facts (P := (PySem.Challenge.rw_turnbehind_k02_sorted_or_repeated).prog) (w := w) KX G hmg c cx
    exact ⟨K, fd, KX, hb, hF⟩
