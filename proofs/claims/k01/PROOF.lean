import PyProof.Rows.All
import Wide.All
import OpenK.AllK
import Wide.FinOn
import PySem.Challenge.RW_lateamounts_k01_names_and_constraints_re
import HandS.ForMost
import HandS.Exc
import KE.KDictWalk
import KE.KeyNested
import KE.KDictCopyH
import HandS.Flow
import HandS.Wide
import HandS.IsInst
import HandS.TupAny
import HandS.WordsExc
import HandS.Text
import HandS.Defaults
import HandS.ClsMeth
import KE.KEqNest
import PyProof.NeKinds
import HandS.ExcOwn
import HandS.Iter
import HandS.Comp
import HandS.Dict
import HandS.More
import HandS.ListItems
import HandS.RaiseMore
import HandS.SortInts
import HandS.Style
import HandS.Ends
set_option Elab.async false
set_option linter.all false
set_option maxRecDepth 100000
set_option maxHeartbeats 4000000
/-! DS: plain data over the heap. D: data; O: what a name or a temporary holds (data that nobody changes any more, or things of its own). -/
namespace DS
open PySem PySem.Spec PyProof.Rows L2
inductive D where
  | non | bl (b : Bool) | int (i : Int) | str (x : Str)
  | lst (xs : List D) | tup (xs : List D) | dct (kvs : List (D × D))
  /-- the law's script -/
  | scr (xs : List D)
  | ins (c : Nat) (fs : List (Str × D))
  | val (v : V)
inductive O where
  | pu (d : D) | fl (xs : List D) | fd (kvs : List (D × D)) | tu (xs : List O) | ob (c : Nat) (fs : List (Str × O))
mutual
def D.key : D → Option NestedKey
  | .non => some .none
  | .bl b => some (.num (if b = true then 1 else 0))
  | .int i => some (.num i)
  | .str x => some (.text x)
  | .tup xs => (D.keys xs).map .tup
  | .lst _ => none
  | .scr _ => none
  | .dct _ => none
  | .ins _ _ => none
  | .val _ => none
def D.keys : List D → Option (List NestedKey)
  | [] => some []
  | x :: xs => match D.key x, D.keys xs with
    | some k, some ks => some (k :: ks)
    | _, _ => none
end
mutual
/-- what is seen of it, once nobody changes it -/
def O.fz : O → D
  | .pu d => d
  | .fl xs => .lst xs
  | .fd kvs => .dct kvs
  | .tu os => .tup (O.fzs os)
  | .ob c fs => .ins c (O.fzf fs)
def O.fzs : List O → List D
  | [] => []
  | o :: os => O.fz o :: O.fzs os
def O.fzf : List (Str × O) → List (Str × D)
  | [] => []
  | p :: fs => (p.1, O.fz p.2) :: O.fzf fs
end
/-- the object at a, to the letter -/
def pin (a : Addr) (o : Obj) : HO := .ext fun h => h.get? a = some o
structure Kx where
  w : World
  K : PySem.W.Frag
  cls : Nat → Addr
def DNodup : List (D × D) → Prop
  | [] => True
  | p :: r => (∀ q ∈ r, D.key q.1 ≠ D.key p.1) ∧ DNodup r
section
variable (C : Kx) (Z : Addr → Prop) (H : Hp)
mutual
/-- the value v is the data d: whatever can be changed in it stands in Z -/
def RD : D → V → Prop
  | .non, v => v = .non
  | .bl b, v => v = .bl b
  | .int i, v => v = .int i
  | .str x, v => v = .str x
  | .lst xs, v => ∃ a vs, v = .ref a ∧ Z a ∧ H a = some (.lst vs) ∧ RDs xs vs
  | .scr xs, v => ∃ a vs, v = .ref a ∧ ((Z a ∧ SqL C.K H a vs) ∨ ∀ H', SqL C.K H' a vs) ∧ RDs xs vs
  | .tup xs, v => ∃ a vs, v = .ref a ∧ H a = some (.tup vs) ∧ RDs xs vs
  | .dct kvs, v => ∃ a o es ep, v = .ref a ∧ Z a ∧ H a = some (pin a o) ∧ (a == sysModules) = false ∧ o.ExactDict ∧ o.data = .dict es ep ∧ kvs.length ≤ sizeLine ∧ DNodup kvs ∧ RDk kvs es.toList
  | .ins c fs, v => ∃ a dx fvs, v = .ref a ∧ Z a ∧ H a = some (.ins (C.cls c) dx fvs) ∧ RDf fs fvs
  | .val u, v => v = u
def RDs : List D → List V → Prop
  | [], vs => vs = []
  | d :: ds, vs => ∃ v r, vs = v :: r ∧ RD d v ∧ RDs ds r
def RDk : List (D × D) → List DictEntry → Prop
  | [], es => es = []
  | p :: r, es => ∃ e er k kv vv, es = e :: er ∧ D.key p.1 = some k ∧ k.depth ≤ 8 ∧ e.hash = k.hash C.w ∧ RelV kv e.key ∧ RelV vv e.val ∧ RD p.1 kv ∧ RD p.2 vv ∧ RDk r er
def RDf : List (Str × D) → List (Str × V) → Prop
  | [], fvs => fvs = []
  | p :: r, fvs => ∃ v fr, fvs = (p.1, v) :: fr ∧ RD p.2 v ∧ RDf r fr
end
mutual
/-- the value v is what o says; F: the places that are its own -/
def RO : O → V → List Addr → Prop
  | .pu d, v, F => F = [] ∧ RD C Z H d v
  | .fl xs, v, F => ∃ a vs, F = [a] ∧ v = .ref a ∧ H a = some (.lst vs) ∧ RDs C Z H xs vs
  | .fd kvs, v, F => ∃ a o es ep, F = [a] ∧ v = .ref a ∧ H a = some (pin a o) ∧ (a == sysModules) = false ∧ o.ExactDict ∧ o.data = .dict es ep ∧ kvs.length ≤ sizeLine ∧ DNodup kvs ∧ RDk C Z H kvs es.toList
  | .tu os, v, F => ∃ a vs, v = .ref a ∧ H a = some (.tup vs) ∧ ROs os vs F
  | .ob c fs, v, F => ∃ a dx fvs F', F = a :: F' ∧ v = .ref a ∧ H a = some (.ins (C.cls c) dx fvs) ∧ ROf fs fvs F'
def ROs : List O → List V → List Addr → Prop
  | [], vs, F => vs = [] ∧ F = []
  | o :: os, vs, F => ∃ v r F1 F2, vs = v :: r ∧ F = F1 ++ F2 ∧ RO o v F1 ∧ ROs os r F2
def ROf : List (Str × O) → List (Str × V) → List Addr → Prop
  | [], fvs, F => fvs = [] ∧ F = []
  | p :: r, fvs, F => ∃ v fr F1 F2, fvs = (p.1, v) :: fr ∧ F = F1 ++ F2 ∧ RO p.2 v F1 ∧ ROf r fr F2
end
end
/-- what may happen elsewhere -/
structure Kp (Z Z' : Addr → Prop) (H H' : Hp) : Prop where
  z : ∀ a, Z a → Z' a
  h : ∀ a, Z a → H' a = H a
  t : ∀ a xs, H a = some (.tup xs) → H' a = some (.tup xs)
theorem Kp.refl {Z : Addr → Prop} {H : Hp} : Kp Z Z H H := ⟨fun _ h => h, fun _ _ => rfl, fun _ _ h => h⟩
theorem Kp.more {Z Z' : Addr → Prop} {H : Hp} (h : ∀ a, Z a → Z' a) : Kp Z Z' H H := ⟨h, fun _ _ => rfl, fun _ _ h => h⟩
theorem Kp.trans {Z Z1 Z2 : Addr → Prop} {H H1 H2 : Hp} (a : Kp Z Z1 H H1) (b : Kp Z1 Z2 H1 H2) : Kp Z Z2 H H2 :=
  ⟨fun x h => b.z x (a.z x h), fun x h => (b.h x (a.z x h)).trans (a.h x h), fun x xs h => b.t x xs (a.t x xs h)⟩
section
variable {C : Kx} {Z Z' : Addr → Prop} {H H' : Hp}
theorem sql_keep {K : PySem.W.Frag} {a : Addr} {vs : List V} (e : H' a = H a) (h : SqL K H a vs) : SqL K H' a vs := by
  rcases h with h | h
  · refine .inl ?_
    rcases h with h | ⟨o, h⟩
    · exact .inl (e.trans h)
    · exact .inr ⟨o, e.trans h⟩
  · exact .inr h
mutual
theorem RD.keep (k : Kp Z Z' H H') : ∀ {d : D} {v : V}, RD C Z H d v → RD C Z' H' d v
  | .non, _, h => by simp only [RD] at h ⊢; exact h
  | .bl _, _, h => by simp only [RD] at h ⊢; exact h
  | .int _, _, h => by simp only [RD] at h ⊢; exact h
  | .str _, _, h => by simp only [RD] at h ⊢; exact h
  | .lst xs, v, h => by
    simp only [RD] at h ⊢
    obtain ⟨a, vs, e, z, q, r⟩ := h
    exact ⟨a, vs, e, k.z a z, (k.h a z).trans q, RDs.keep k r⟩
  | .scr xs, v, h => by
    simp only [RD] at h ⊢
    obtain ⟨a, vs, e, q, r⟩ := h
    refine ⟨a, vs, e, ?_, RDs.keep k r⟩
    rcases q with ⟨z, q⟩ | q
    · exact .inl ⟨k.z a z, sql_keep (k.h a z) q⟩
    · exact .inr q
  | .tup xs, v, h => by
    simp only [RD] at h ⊢
    obtain ⟨a, vs, e, q, r⟩ := h
    exact ⟨a, vs, e, k.t _ _ q, RDs.keep k r⟩
  | .dct kvs, v, h => by
    simp only [RD] at h ⊢
    obtain ⟨a, o, es, ep, e, z, q, x1, x2, x3, x4, x5, r⟩ := h
    exact ⟨a, o, es, ep, e, k.z a z, (k.h a z).trans q, x1, x2, x3, x4, x5, RDk.keep k r⟩
  | .ins c fs, v, h => by
    simp only [RD] at h ⊢
    obtain ⟨a, dx, fvs, e, z, q, r⟩ := h
    exact ⟨a, dx, fvs, e, k.z a z, (k.h a z).trans q, RDf.keep k r⟩
  | .val _, _, h => by simp only [RD] at h ⊢; exact h
theorem RDs.keep (k : Kp Z Z' H H') : ∀ {ds : List D} {vs : List V}, RDs C Z H ds vs → RDs C Z' H' ds vs
  | [], _, h => by simp only [RDs] at h ⊢; exact h
  | d :: ds, _, h => by
    simp only [RDs] at h ⊢
    obtain ⟨v, r, e, h1, h2⟩ := h
    exact ⟨v, r, e, RD.keep k h1, RDs.keep k h2⟩
theorem RDk.keep (k : Kp Z Z' H H') : ∀ {kvs : List (D × D)} {es : List DictEntry}, RDk C Z H kvs es → RDk C Z' H' kvs es
  | [], _, h => by simp only [RDk] at h ⊢; exact h
  | p :: r, _, h => by
    simp only [RDk] at h ⊢
    obtain ⟨e, er, kk, kv, vv, e0, h1, h2, h3, h4, h5, h6, h7, h8⟩ := h
    exact ⟨e, er, kk, kv, vv, e0, h1, h2, h3, h4, h5, RD.keep k h6, RD.keep k h7, RDk.keep k h8⟩
theorem RDf.keep (k : Kp Z Z' H H') : ∀ {fs : List (Str × D)} {fvs : List (Str × V)}, RDf C Z H fs fvs → RDf C Z' H' fs fvs
  | [], _, h => by simp only [RDf] at h ⊢; exact h
  | p :: r, _, h => by
    simp only [RDf] at h ⊢
    obtain ⟨v, fr, e, h1, h2⟩ := h
    exact ⟨v, fr, e, RD.keep k h1, RDf.keep k h2⟩
end
mutual
theorem RO.keep (k : Kp Z Z' H H') : ∀ {o : O} {v : V} {F : List Addr}, (∀ a ∈ F, H' a = H a) → RO C Z H o v F → RO C Z' H' o v F
  | .pu d, v, F, hF, h => by
    simp only [RO] at h ⊢
    exact ⟨h.1, h.2.keep k⟩
  | .fl xs, v, F, hF, h => by
    simp only [RO] at h ⊢
    obtain ⟨a, vs, e, e2, q, r⟩ := h
    exact ⟨a, vs, e, e2, (hF a (by rw [e]; exact List.mem_singleton_self a)).trans q, r.keep k⟩
  | .fd kvs, v, F, hF, h => by
    simp only [RO] at h ⊢
    obtain ⟨a, o, es, ep, e, e2, q, x1, x2, x3, x4, x5, r⟩ := h
    exact ⟨a, o, es, ep, e, e2, (hF a (by rw [e]; exact List.mem_singleton_self a)).trans q, x1, x2, x3, x4, x5, r.keep k⟩
  | .tu os, v, F, hF, h => by
    simp only [RO] at h ⊢
    obtain ⟨a, vs, e, q, r⟩ := h
    exact ⟨a, vs, e, k.t _ _ q, ROs.keep k hF r⟩
  | .ob c fs, v, F, hF, h => by
    simp only [RO] at h ⊢
    obtain ⟨a, dx, fvs, F', e, e2, q, r⟩ := h
    subst e
    exact ⟨a, dx, fvs, F', rfl, e2, (hF a List.mem_cons_self).trans q, ROf.keep k (fun b hb => hF b (List.mem_cons_of_mem _ hb)) r⟩
theorem ROs.keep (k : Kp Z Z' H H') : ∀ {os : List O} {vs : List V} {F : List Addr}, (∀ a ∈ F, H' a = H a) → ROs C Z H os vs F → ROs C Z' H' os vs F
  | [], _, _, _, h => by simp only [ROs] at h ⊢; exact h
  | o :: os, _, F, hF, h => by
    simp only [ROs] at h ⊢
    obtain ⟨v, r, F1, F2, e, e2, h1, h2⟩ := h
    subst e2
    exact ⟨v, r, F1, F2, e, rfl, RO.keep k (fun b hb => hF b (List.mem_append_left _ hb)) h1, ROs.keep k (fun b hb => hF b (List.mem_append_right _ hb)) h2⟩
theorem ROf.keep (k : Kp Z Z' H H') : ∀ {fs : List (Str × O)} {fvs : List (Str × V)} {F : List Addr}, (∀ a ∈ F, H' a = H a) → ROf C Z H fs fvs F → ROf C Z' H' fs fvs F
  | [], _, _, _, h => by simp only [ROf] at h ⊢; exact h
  | p :: r, _, F, hF, h => by
    simp only [ROf] at h ⊢
    obtain ⟨v, fr, F1, F2, e, e2, h1, h2⟩ := h
    subst e2
    exact ⟨v, fr, F1, F2, e, rfl, RO.keep k (fun b hb => hF b (List.mem_append_left _ hb)) h1, ROf.keep k (fun b hb => hF b (List.mem_append_right _ hb)) h2⟩
end
/-- its own places are given up: it is data from now on -/
abbrev Zor (Z : Addr → Prop) (F : List Addr) : Addr → Prop := fun a => Z a ∨ a ∈ F
mutual
theorem RO.fz : ∀ {o : O} {v : V} {F : List Addr}, (∀ a ∈ F, Z a) → RO C Z H o v F → RD C Z H o.fz v
  | .pu d, v, F, hF, h => by
    simp only [RO] at h
    exact h.2
  | .fl xs, v, F, hF, h => by
    simp only [RO] at h
    obtain ⟨a, vs, e, e2, q, r⟩ := h
    simp only [O.fz, RD]
    exact ⟨a, vs, e2, hF a (by rw [e]; exact List.mem_singleton_self a), q, r⟩
  | .fd kvs, v, F, hF, h => by
    simp only [RO] at h
    obtain ⟨a, o, es, ep, e, e2, q, x⟩ := h
    simp only [O.fz, RD]
    exact ⟨a, o, es, ep, e2, hF a (by rw [e]; exact List.mem_singleton_self a), q, x⟩
  | .tu os, v, F, hF, h => by
    simp only [RO] at h
    obtain ⟨a, vs, e, q, r⟩ := h
    simp only [O.fz, RD]
    exact ⟨a, vs, e, q, ROs.fz hF r⟩
  | .ob c fs, v, F, hF, h => by
    simp only [RO] at h
    obtain ⟨a, dx, fvs, F', e, e2, q, r⟩ := h
    subst e
    simp only [O.fz, RD]
    exact ⟨a, dx, fvs, e2, hF a List.mem_cons_self, q, ROf.fz (fun b hb => hF b (List.mem_cons_of_mem _ hb)) r⟩
theorem ROs.fz : ∀ {os : List O} {vs : List V} {F : List Addr}, (∀ a ∈ F, Z a) → ROs C Z H os vs F → RDs C Z H (O.fzs os) vs
  | [], _, _, _, h => by simp only [ROs] at h; simp only [O.fzs, RDs]; exact h.1
  | o :: os, _, F, hF, h => by
    simp only [ROs] at h
    obtain ⟨v, r, F1, F2, e, e2, h1, h2⟩ := h
    subst e2
    simp only [O.fzs, RDs]
    exact ⟨v, r, e, RO.fz (fun b hb => hF b (List.mem_append_left _ hb)) h1, ROs.fz (fun b hb => hF b (List.mem_append_right _ hb)) h2⟩
theorem ROf.fz : ∀ {fs : List (Str × O)} {fvs : List (Str × V)} {F : List Addr}, (∀ a ∈ F, Z a) → ROf C Z H fs fvs F → RDf C Z H (O.fzf fs) fvs
  | [], _, _, _, h => by simp only [ROf] at h; simp only [O.fzf, RDf]; exact h.1
  | p :: r, _, F, hF, h => by
    simp only [ROf] at h
    obtain ⟨v, fr, F1, F2, e, e2, h1, h2⟩ := h
    subst e2
    simp only [O.fzf, RDf]
    exact ⟨v, fr, e, RO.fz (fun b hb => hF b (List.mem_append_left _ hb)) h1, ROf.fz (fun b hb => hF b (List.mem_append_right _ hb)) h2⟩
end
mutual
/-- what is its own stands there, and is no tuple -/
theorem RO.own : ∀ {o : O} {v : V} {F : List Addr}, RO C Z H o v F → ∀ a ∈ F, ∃ u, H a = some u ∧ ∀ xs, u ≠ .tup xs
  | .pu d, v, F, h, a, ha => by
    simp only [RO] at h
    rw [h.1] at ha
    cases ha
  | .fl xs, v, F, h, a, ha => by
    simp only [RO] at h
    obtain ⟨b, vs, e, e2, q, r⟩ := h
    rw [e, List.mem_singleton] at ha
    subst ha
    exact ⟨_, q, fun _ z => by cases z⟩
  | .fd kvs, v, F, h, a, ha => by
    simp only [RO] at h
    obtain ⟨b, o, es, ep, e, e2, q, x⟩ := h
    rw [e, List.mem_singleton] at ha
    subst ha
    exact ⟨_, q, fun _ z => by cases z⟩
  | .tu os, v, F, h, a, ha => by
    simp only [RO] at h
    obtain ⟨b, vs, e, q, r⟩ := h
    exact ROs.own r a ha
  | .ob c fs, v, F, h, a, ha => by
    simp only [RO] at h
    obtain ⟨b, dx, fvs, F', e, e2, q, r⟩ := h
    subst e
    rcases List.mem_cons.mp ha with rfl | ha
    · exact ⟨_, q, fun _ z => by cases z⟩
    · exact ROf.own r a ha
theorem ROs.own : ∀ {os : List O} {vs : List V} {F : List Addr}, ROs C Z H os vs F → ∀ a ∈ F, ∃ u, H a = some u ∧ ∀ xs, u ≠ .tup xs
  | [], _, _, h, a, ha => by simp only [ROs] at h; rw [h.2] at ha; cases ha
  | o :: os, _, F, h, a, ha => by
    simp only [ROs] at h
    obtain ⟨v, r, F1, F2, e, e2, h1, h2⟩ := h
    subst e2
    rcases List.mem_append.mp ha with ha | ha
    · exact RO.own h1 a ha
    · exact ROs.own h2 a ha
theorem ROf.own : ∀ {fs : List (Str × O)} {fvs : List (Str × V)} {F : List Addr}, ROf C Z H fs fvs F → ∀ a ∈ F, ∃ u, H a = some u ∧ ∀ xs, u ≠ .tup xs
  | [], _, _, h, a, ha => by simp only [ROf] at h; rw [h.2] at ha; cases ha
  | p :: r, _, F, h, a, ha => by
    simp only [ROf] at h
    obtain ⟨v, fr, F1, F2, e, e2, h1, h2⟩ := h
    subst e2
    rcases List.mem_append.mp ha with ha | ha
    · exact RO.own h1 a ha
    · exact ROf.own h2 a ha
end
end
/-! ### the names and the temporaries -/
abbrev Ev := List (Option O)
abbrev Sl := L2.St
abbrev Tm := List (O × V)
section
variable (C : Kx) (Z : Addr → Prop) (H : Hp)
def Slots : Ev → Sl → List Addr → Prop
  | [], [], F => F = []
  | none :: e, _ :: σ, F => Slots e σ F
  | some o :: e, s :: σ, F => ∃ v F1 F2, s = some v ∧ F = F1 ++ F2 ∧ RO C Z H o v F1 ∧ Slots e σ F2
  | _, _, _ => False
def Temps : Tm → List Addr → Prop
  | [], G => G = []
  | p :: T, G => ∃ G1 G2, G = G1 ++ G2 ∧ RO C Z H p.1 p.2 G1 ∧ Temps T G2
end
section
variable {C : Kx} {Z Z' : Addr → Prop} {H H' : Hp} {e : Ev} {σ : Sl} {T : Tm} {F G : List Addr} {i : Nat} {o : O} {v : V}
theorem Slots.keep (k : Kp Z Z' H H') : ∀ {e : Ev} {σ : Sl} {F : List Addr}, (∀ a ∈ F, H' a = H a) → Slots C Z H e σ F → Slots C Z' H' e σ F
  | [], [], _, _, h => h
  | none :: e, _ :: σ, F, hF, h => by
    simp only [Slots] at h ⊢
    exact Slots.keep k hF h
  | some o :: e, s :: σ, F, hF, h => by
    simp only [Slots] at h ⊢
    obtain ⟨v, F1, F2, e1, e2, h1, h2⟩ := h
    subst e2
    exact ⟨v, F1, F2, e1, rfl, h1.keep k (fun b hb => hF b (List.mem_append_left _ hb)), Slots.keep k (fun b hb => hF b (List.mem_append_right _ hb)) h2⟩
  | [], _ :: _, _, _, h => by simp only [Slots] at h
  | none :: _, [], _, _, h => by simp only [Slots] at h
  | some _ :: _, [], _, _, h => by simp only [Slots] at h
theorem Temps.keep (k : Kp Z Z' H H') : ∀ {T : Tm} {G : List Addr}, (∀ a ∈ G, H' a = H a) → Temps C Z H T G → Temps C Z' H' T G
  | [], _, _, h => h
  | p :: T, G, hG, h => by
    simp only [Temps] at h ⊢
    obtain ⟨G1, G2, e2, h1, h2⟩ := h
    subst e2
    exact ⟨G1, G2, rfl, h1.keep k (fun b hb => hG b (List.mem_append_left _ hb)), Temps.keep k (fun b hb => hG b (List.mem_append_right _ hb)) h2⟩
theorem Slots.own : ∀ {e : Ev} {σ : Sl} {F : List Addr}, Slots C Z H e σ F → ∀ a ∈ F, ∃ u, H a = some u ∧ ∀ xs, u ≠ .tup xs
  | [], [], F, h, a, ha => by simp only [Slots] at h; rw [h] at ha; cases ha
  | none :: e, _ :: σ, F, h, a, ha => by simp only [Slots] at h; exact Slots.own h a ha
  | some o :: e, s :: σ, F, h, a, ha => by
    simp only [Slots] at h
    obtain ⟨v, F1, F2, e1, e2, h1, h2⟩ := h
    subst e2
    rcases List.mem_append.mp ha with ha | ha
    · exact h1.own a ha
    · exact Slots.own h2 a ha
  | [], _ :: _, _, h, _, _ => by simp only [Slots] at h
  | none :: _, [], _, h, _, _ => by simp only [Slots] at h
  | some _ :: _, [], _, h, _, _ => by simp only [Slots] at h
theorem Temps.own : ∀ {T : Tm} {G : List Addr}, Temps C Z H T G → ∀ a ∈ G, ∃ u, H a = some u ∧ ∀ xs, u ≠ .tup xs
  | [], G, h, a, ha => by simp only [Temps] at h; rw [h] at ha; cases ha
  | p :: T, G, h, a, ha => by
    simp only [Temps] at h
    obtain ⟨G1, G2, e2, h1, h2⟩ := h
    subst e2
    rcases List.mem_append.mp ha with ha | ha
    · exact h1.own a ha
    · exact Temps.own h2 a ha
theorem Slots.len : ∀ {e : Ev} {σ : Sl} {F : List Addr}, Slots C Z H e σ F → e.length = σ.length
  | [], [], _, _ => rfl
  | none :: e, _ :: σ, F, h => by simp only [Slots] at h; simp only [List.length_cons, Slots.len h]
  | some o :: e, s :: σ, F, h => by
    simp only [Slots] at h
    obtain ⟨v, F1, F2, e1, e2, h1, h2⟩ := h
    simp only [List.length_cons, Slots.len h2]
  | [], _ :: _, _, h => by simp only [Slots] at h
  | none :: _, [], _, h => by simp only [Slots] at h
  | some _ :: _, [], _, h => by simp only [Slots] at h
/-- a name's thing is taken out -/
theorem Slots.take : ∀ {e : Ev} {σ : Sl} {F : List Addr} {i : Nat} {o : O}, Slots C Z H e σ F → e[i]? = some (some o) → ∃ v F1 F2, σ[i]? = some (some v) ∧ RO C Z H o v F1 ∧ Slots C Z H (e.set i none) σ F2 ∧ F.Perm (F1 ++ F2)
  | [], _, _, _, _, _, he => by simp at he
  | none :: e, s :: σ, F, 0, o, h, he => by simp at he
  | none :: e, s :: σ, F, i + 1, o, h, he => by
    simp only [Slots] at h
    obtain ⟨v, F1, F2, h1, h2, h3, h4⟩ := Slots.take h (by simpa using he)
    exact ⟨v, F1, F2, by simpa using h1, h2, by simpa [Slots] using h3, h4⟩
  | some u :: e, s :: σ, F, 0, o, h, he => by
    simp only [Slots] at h
    obtain ⟨v, F1, F2, e1, e2, h1, h2⟩ := h
    have q : u = o := by simpa using he
    subst q
    exact ⟨v, F1, F2, by simp [e1], h1, by simpa [Slots] using h2, by rw [e2]⟩
  | some u :: e, s :: σ, F, i + 1, o, h, he => by
    simp only [Slots] at h
    obtain ⟨w, E1, E2, e1, e2, g1, g2⟩ := h
    obtain ⟨v, F1, F2, h1, h2, h3, h4⟩ := Slots.take g2 (by simpa using he)
    refine ⟨v, F1, E1 ++ F2, by simpa using h1, h2, ?_, ?_⟩
    · simp only [List.set_cons_succ, Slots]
      exact ⟨w, E1, F2, e1, rfl, g1, h3⟩
    · rw [e2]
      refine (List.Perm.append_left E1 h4).trans ?_
      rw [← List.append_assoc, ← List.append_assoc]
      exact List.Perm.append_right F2 List.perm_append_comm
  | none :: _, [], _, _, _, h, _ => by simp only [Slots] at h
  | some _ :: _, [], _, _, _, h, _ => by simp only [Slots] at h
/-- .. and put in (the slot may be stored anew) -/
theorem Slots.put : ∀ {e : Ev} {σ : Sl} {F F1 : List Addr} {i : Nat} {o : O} {v : V}, Slots C Z H e σ F → e[i]? = some none → RO C Z H o v F1 → ∃ F2, Slots C Z H (e.set i (some o)) (σ.set i (some v)) F2 ∧ F2.Perm (F1 ++ F)
  | [], _, _, _, _, _, _, _, he, _ => by simp at he
  | none :: e, s :: σ, F, F1, 0, o, v, h, he, r => by
    simp only [Slots] at h
    refine ⟨F1 ++ F, ?_, List.Perm.refl _⟩
    simp only [List.set_cons_zero, Slots]
    exact ⟨v, F1, F, rfl, rfl, r, h⟩
  | none :: e, s :: σ, F, F1, i + 1, o, v, h, he, r => by
    simp only [Slots] at h
    obtain ⟨F2, h1, h2⟩ := Slots.put h (by simpa using he) r
    exact ⟨F2, by simpa [Slots] using h1, h2⟩
  | some u :: e, s :: σ, F, F1, 0, o, v, h, he, r => by simp at he
  | some u :: e, s :: σ, F, F1, i + 1, o, v, h, he, r => by
    simp only [Slots] at h
    obtain ⟨w, E1, E2, e1, e2, g1, g2⟩ := h
    obtain ⟨F2, h1, h2⟩ := Slots.put g2 (by simpa using he) r
    refine ⟨E1 ++ F2, ?_, ?_⟩
    · simp only [List.set_cons_succ, Slots]
      exact ⟨w, E1, F2, e1, rfl, g1, h1⟩
    · rw [e2]
      refine (List.Perm.append_left E1 h2).trans ?_
      rw [← List.append_assoc, ← List.append_assoc]
      exact List.Perm.append_right E2 List.perm_append_comm
  | none :: _, [], _, _, _, _, _, h, _, _ => by simp only [Slots] at h
  | some _ :: _, [], _, _, _, _, _, h, _, _ => by simp only [Slots] at h
/-- a forgotten slot may be anything -/
theorem Slots.any : ∀ {e : Ev} {σ : Sl} {F : List Addr} {i : Nat} {s : Option V}, Slots C Z H e σ F → e[i]? = some none → Slots C Z H e (σ.set i s) F
  | [], _, _, _, _, _, he => by simp at he
  | none :: e, u :: σ, F, 0, s, h, he => by simpa [Slots] using h
  | none :: e, u :: σ, F, i + 1, s, h, he => by
    simp only [Slots] at h
    simpa [Slots] using Slots.any h (by simpa using he)
  | some o :: e, u :: σ, F, 0, s, h, he => by simp at he
  | some o :: e, u :: σ, F, i + 1, s, h, he => by
    simp only [Slots] at h
    obtain ⟨w, E1, E2, e1, e2, g1, g2⟩ := h
    simp only [List.set_cons_succ, Slots]
    exact ⟨w, E1, E2, e1, e2, g1, Slots.any g2 (by simpa using he)⟩
  | none :: _, [], _, _, _, h, _ => by simp only [Slots] at h
  | some _ :: _, [], _, _, _, h, _ => by simp only [Slots] at h
theorem Temps.perm : ∀ {T T' : Tm} {G : List Addr}, T.Perm T' → Temps C Z H T G → ∃ G', Temps C Z H T' G' ∧ G.Perm G' := by
  intro T T' G p
  induction p generalizing G with
  | nil => intro h; exact ⟨G, h, List.Perm.refl _⟩
  | cons x p ih =>
    intro h
    simp only [Temps] at h ⊢
    obtain ⟨G1, G2, e2, h1, h2⟩ := h
    obtain ⟨G3, h3, h4⟩ := ih h2
    subst e2
    exact ⟨G1 ++ G3, ⟨G1, G3, rfl, h1, h3⟩, List.Perm.append_left G1 h4⟩
  | swap x y l =>
    intro h
    simp only [Temps] at h ⊢
    obtain ⟨G1, G2, e2, h1, G3, G4, e4, h3, h4⟩ := h
    subst e2 e4
    refine ⟨G3 ++ (G1 ++ G4), ⟨G3, _, rfl, h3, G1, G4, rfl, h1, h4⟩, ?_⟩
    rw [← List.append_assoc, ← List.append_assoc]
    exact List.Perm.append_right G4 List.perm_append_comm
  | trans p q ih1 ih2 =>
    intro h
    obtain ⟨G1, h1, p1⟩ := ih1 h
    obtain ⟨G2, h2, p2⟩ := ih2 h1
    exact ⟨G2, h2, p1.trans p2⟩
end
/-- the ground of a body: the heap and what stood fast at its entry, what it may change, the slots that it must not store -/
structure Bs where
  H0 : Hp
  Z0 : Addr → Prop
  F0 : List Addr
  io : List (Nat × V)
def Bs.mine (B : Bs) (a : Addr) : Prop := B.H0 a = none ∨ a ∈ B.F0
structure Wd (C : Kx) (B : Bs) (Z : Addr → Prop) (H : Hp) (σ : Sl) (e : Ev) (T : Tm) : Prop where
  ex : ∃ F G, Slots C Z H e σ F ∧ Temps C Z H T G ∧ (F ++ G).Nodup ∧ ∀ a ∈ F ++ G, ¬ Z a ∧ B.mine a
  zs : ∀ a, Z a → ∃ o, H a = some o
  z0 : ∀ a, B.Z0 a → Z a
  z1 : ∀ a, Z a → B.Z0 a ∨ B.mine a
  fr : ∀ a o, B.H0 a = some o → a ∉ B.F0 → H a = some o
  io : ∀ p ∈ B.io, σ[p.1]? = some (some p.2)
theorem kp_upd {Z : Addr → Prop} {H : Hp} {p : Addr} {o : HO} (zs : ∀ a, Z a → ∃ o, H a = some o) (hp : H p = none) : Kp Z Z H (upd H p o) where
  z := fun _ h => h
  h := fun a z => upd_ne (by obtain ⟨u, q⟩ := zs a z; exact ne_of_none q hp)
  t := fun a xs q => (upd_ne (ne_of_none q hp)).trans q
section
variable {C : Kx} {B : Bs} {Z Z' : Addr → Prop} {H H' : Hp} {e : Ev} {σ : Sl} {T T' : Tm} {F G : List Addr} {i : Nat} {o : O} {v : V} {d : D} {a p : Addr}
theorem Wd.len (W : Wd C B Z H σ e T) : e.length = σ.length := by
  obtain ⟨F, G, h1, _⟩ := W.ex
  exact h1.len
theorem Wd.perm (W : Wd C B Z H σ e T) (p : T.Perm T') : Wd C B Z H σ e T' := by
  obtain ⟨F, G, h1, h2, h3, h4⟩ := W.ex
  obtain ⟨G', h5, h6⟩ := h2.perm p
  have q : (F ++ G).Perm (F ++ G') := List.Perm.append_left F h6
  exact ⟨⟨F, G', h1, h5, q.nodup_iff.mp h3, fun a ha => h4 a (q.mem_iff.mpr ha)⟩, W.zs, W.z0, W.z1, W.fr, W.io⟩
theorem Wd.swap {x y : O × V} (W : Wd C B Z H σ e (x :: y :: T)) : Wd C B Z H σ e (y :: x :: T) := W.perm (List.Perm.swap _ _ _)
/-- the newest temporary is dropped -/
theorem Wd.drop (W : Wd C B Z H σ e ((o, v) :: T)) : Wd C B Z H σ e T := by
  obtain ⟨F, G, h1, h2, h3, h4⟩ := W.ex
  simp only [Temps] at h2
  obtain ⟨G1, G2, e2, h5, h6⟩ := h2
  subst e2
  refine ⟨⟨F, G2, h1, h6, ?_, fun a ha => h4 a ?_⟩, W.zs, W.z0, W.z1, W.fr, W.io⟩
  · exact h3.sublist (List.Sublist.append_left (List.sublist_append_right _ _) _)
  · rcases List.mem_append.mp ha with h | h
    · exact List.mem_append_left _ h
    · exact List.mem_append_right _ (List.mem_append_right _ h)
/-- data is a temporary -/
theorem Wd.push (W : Wd C B Z H σ e T) (r : RD C Z H d v) : Wd C B Z H σ e ((.pu d, v) :: T) := by
  obtain ⟨F, G, h1, h2, h3, h4⟩ := W.ex
  refine ⟨⟨F, G, h1, ?_, h3, h4⟩, W.zs, W.z0, W.z1, W.fr, W.io⟩
  simp only [Temps]
  exact ⟨[], G, rfl, by unfold RO; exact ⟨rfl, r⟩, h2⟩
theorem Wd.head (W : Wd C B Z H σ e ((.pu d, v) :: T)) : RD C Z H d v := by
  obtain ⟨F, G, h1, h2, h3, h4⟩ := W.ex
  simp only [Temps] at h2
  obtain ⟨G1, G2, e2, h5, h6⟩ := h2
  simp only [RO] at h5
  exact h5.2
/-- the newest temporary becomes data -/
theorem Wd.frz (W : Wd C B Z H σ e ((o, v) :: T)) : ∃ Z', Kp Z Z' H H ∧ Wd C B Z' H σ e T ∧ RD C Z' H o.fz v := by
  obtain ⟨F, G, h1, h2, h3, h4⟩ := W.ex
  simp only [Temps] at h2
  obtain ⟨G1, G2, e2, h5, h6⟩ := h2
  subst e2
  have k : Kp Z (Zor Z G1) H H := .more fun _ h => .inl h
  have ap : ∀ b ∈ F ++ G2, b ∉ G1 := by
    intro b hb hb1
    rw [List.nodup_append] at h3
    obtain ⟨_, h3b, h3c⟩ := h3
    rw [List.nodup_append] at h3b
    rcases List.mem_append.mp hb with hb | hb
    · exact h3c b hb b (List.mem_append_left _ hb1) rfl
    · exact h3b.2.2 b hb1 b hb rfl
  refine ⟨Zor Z G1, k, ⟨⟨F, G2, h1.keep k (fun _ _ => rfl), h6.keep k (fun _ _ => rfl), h3.sublist (List.Sublist.append_left (List.sublist_append_right _ _) _), fun b hb => ⟨fun z => ?_, (h4 b ?_).2⟩⟩, fun b z => ?_, fun b z => .inl (W.z0 b z), fun b z => ?_, W.fr, W.io⟩, (h5.keep k (fun _ _ => rfl)).fz fun b hb => .inr hb⟩
  · rcases z with z | z
    · refine (h4 b ?_).1 z
      rcases List.mem_append.mp hb with h | h
      · exact List.mem_append_left _ h
      · exact List.mem_append_right _ (List.mem_append_right _ h)
    · exact ap b hb z
  · rcases List.mem_append.mp hb with h | h
    · exact List.mem_append_left _ h
    · exact List.mem_append_right _ (List.mem_append_right _ h)
  · rcases z with z | z
    · exact W.zs b z
    · obtain ⟨u, q, _⟩ := h5.own b z
      exact ⟨u, q⟩
  · rcases z with z | z
    · exact W.z1 b z
    · exact .inr (h4 b (List.mem_append_right _ (List.mem_append_left _ z))).2
/-- a name's thing becomes a temporary -/
theorem Wd.take (W : Wd C B Z H σ e T) (he : e[i]? = some (some o)) : ∃ v, σ[i]? = some (some v) ∧ Wd C B Z H σ (e.set i none) ((o, v) :: T) := by
  obtain ⟨F, G, h1, h2, h3, h4⟩ := W.ex
  obtain ⟨v, F1, F2, g1, g2, g3, g4⟩ := h1.take he
  have q : (F ++ G).Perm (F2 ++ (F1 ++ G)) := by
    refine (List.Perm.append_right G g4).trans ?_
    rw [← List.append_assoc]
    exact List.Perm.append_right G List.perm_append_comm
  refine ⟨v, g1, ⟨⟨F2, F1 ++ G, g3, ?_, q.nodup_iff.mp h3, fun a ha => h4 a (q.mem_iff.mpr ha)⟩, W.zs, W.z0, W.z1, W.fr, W.io⟩⟩
  simp only [Temps]
  exact ⟨F1, G, rfl, g2, h2⟩
/-- the newest temporary is stored at a name -/
theorem Wd.store (W : Wd C B Z H σ e ((o, v) :: T)) (he : e[i]? = some none) (hi : ∀ p ∈ B.io, p.1 ≠ i) : Wd C B Z H (σ.set i (some v)) (e.set i (some o)) T := by
  obtain ⟨F, G, h1, h2, h3, h4⟩ := W.ex
  simp only [Temps] at h2
  obtain ⟨G1, G2, e2, h5, h6⟩ := h2
  subst e2
  obtain ⟨F2, g1, g2⟩ := h1.put he h5
  have q : (F2 ++ G2).Perm (F ++ (G1 ++ G2)) := by
    refine (List.Perm.append_right G2 g2).trans ?_
    rw [← List.append_assoc]
    exact List.Perm.append_right G2 List.perm_append_comm
  exact ⟨⟨F2, G2, g1, h6, q.nodup_iff.mpr h3, fun a ha => h4 a (q.mem_iff.mp ha)⟩, W.zs, W.z0, W.z1, W.fr, fun p hp => by rw [List.getElem?_set_ne (Ne.symm (hi p hp))]; exact W.io p hp⟩
theorem set_same {α : Type} : ∀ {l : List α} {i : Nat} {x : α}, l[i]? = some x → l.set i x = l
  | [], _, _, h => by simp at h
  | _ :: _, 0, _, h => by simp at h; simp [h]
  | _ :: l, i + 1, _, h => by simp at h; simp [set_same h]
/-- .. back at the name that holds it -/
theorem Wd.back (W : Wd C B Z H σ e ((o, v) :: T)) (he : e[i]? = some none) (hs : σ[i]? = some (some v)) : Wd C B Z H σ (e.set i (some o)) T := by
  obtain ⟨F, G, h1, h2, h3, h4⟩ := W.ex
  simp only [Temps] at h2
  obtain ⟨G1, G2, e2, h5, h6⟩ := h2
  subst e2
  obtain ⟨F2, g1, g2⟩ := h1.put he h5
  rw [set_same hs] at g1
  have q : (F2 ++ G2).Perm (F ++ (G1 ++ G2)) := by
    refine (List.Perm.append_right G2 g2).trans ?_
    rw [← List.append_assoc]
    exact List.Perm.append_right G2 List.perm_append_comm
  exact ⟨⟨F2, G2, g1, h6, q.nodup_iff.mpr h3, fun a ha => h4 a (q.mem_iff.mp ha)⟩, W.zs, W.z0, W.z1, W.fr, W.io⟩
theorem Wd.forget (W : Wd C B Z H σ e T) (i : Nat) : Wd C B Z H σ (e.set i none) T := by
  cases he : e[i]? with
  | none => rw [List.set_eq_of_length_le (List.getElem?_eq_none_iff.mp he)]; exact W
  | some x =>
    cases x with
    | none => rw [set_same he]; exact W
    | some o =>
      obtain ⟨v, _, W'⟩ := W.take he
      exact W'.drop
/-- a forgotten slot is stored by anything -/
theorem Wd.any (W : Wd C B Z H σ e T) (he : e[i]? = some none) (hi : ∀ p ∈ B.io, p.1 ≠ i) (s : Option V) : Wd C B Z H (σ.set i s) e T := by
  obtain ⟨F, G, h1, h2, h3, h4⟩ := W.ex
  exact ⟨⟨F, G, h1.any he, h2, h3, h4⟩, W.zs, W.z0, W.z1, W.fr, fun p hp => by rw [List.getElem?_set_ne (Ne.symm (hi p hp))]; exact W.io p hp⟩
/-- a new object -/
theorem Wd.newX (W : Wd C B Z H σ e T) (hp : H p = none) (u : HO) : Kp Z Z H (upd H p u) ∧ Wd C B Z (upd H p u) σ e T ∧
    ∀ o, RO C Z (upd H p u) o (.ref p) [p] → Wd C B Z (upd H p u) σ e ((o, .ref p) :: T) := by
  obtain ⟨F, G, h1, h2, h3, h4⟩ := W.ex
  have k := kp_upd (o := u) W.zs hp
  have kF : ∀ a ∈ F, upd H p u a = H a := fun a ha => upd_ne (by obtain ⟨x, q, _⟩ := h1.own a ha; exact ne_of_none q hp)
  have kG : ∀ a ∈ G, upd H p u a = H a := fun a ha => upd_ne (by obtain ⟨x, q, _⟩ := h2.own a ha; exact ne_of_none q hp)
  have zs' : ∀ a, Z a → ∃ x, upd H p u a = some x := fun a z => by
    obtain ⟨x, q⟩ := W.zs a z
    exact ⟨x, (upd_ne (ne_of_none q hp)).trans q⟩
  have fr' : ∀ a x, B.H0 a = some x → a ∉ B.F0 → upd H p u a = some x := fun a x q hf => by
    have := W.fr a x q hf
    exact (upd_ne (ne_of_none this hp)).trans this
  refine ⟨k, ⟨⟨F, G, h1.keep k kF, h2.keep k kG, h3, h4⟩, zs', W.z0, W.z1, fr', W.io⟩, fun o r => ?_⟩
  have np : ¬ Z p := fun z => by obtain ⟨x, q⟩ := W.zs p z; rw [hp] at q; cases q
  have mp : B.mine p := by
    cases q : B.H0 p with
    | none => exact .inl q
    | some x =>
      by_cases hf : p ∈ B.F0
      · exact .inr hf
      · have := W.fr p x q hf
        rw [hp] at this
        cases this
  have pF : p ∉ F ++ G := by
    intro hm
    rcases List.mem_append.mp hm with hm | hm
    · obtain ⟨x, q, _⟩ := h1.own p hm
      rw [hp] at q; cases q
    · obtain ⟨x, q, _⟩ := h2.own p hm
      rw [hp] at q; cases q
  refine ⟨⟨F, p :: G, h1.keep k kF, ?_, ?_, ?_⟩, zs', W.z0, W.z1, fr', W.io⟩
  · simp only [Temps]
    exact ⟨[p], G, rfl, r, h2.keep k kG⟩
  · exact (List.perm_middle.nodup_iff).mpr (List.nodup_cons.mpr ⟨pF, h3⟩)
  · intro a ha
    rcases List.mem_cons.mp (List.perm_middle.mem_iff.mp ha) with rfl | ha
    · exact ⟨np, mp⟩
    · exact h4 a ha
theorem Wd.new (W : Wd C B Z H σ e T) (hp : H p = none) (u : HO) : Kp Z Z H (upd H p u) ∧ Wd C B Z (upd H p u) σ e T := ⟨(W.newX hp u).1, (W.newX hp u).2.1⟩
theorem Wd.newOwn (W : Wd C B Z H σ e T) (hp : H p = none) {u : HO} (r : RO C Z (upd H p u) o (.ref p) [p]) : Wd C B Z (upd H p u) σ e ((o, .ref p) :: T) := (W.newX hp u).2.2 o r
/-- the newest temporary, a list or dict of its own at a, is written -/
theorem Wd.write (W : Wd C B Z H σ e ((o, .ref a) :: T)) (ho : ∀ F, RO C Z H o (.ref a) F → F = [a]) {u : HO} {o' : O} (hu : ∀ xs, u ≠ .tup xs) (r : Kp Z Z H (upd H a u) → RO C Z (upd H a u) o' (.ref a) [a]) : Kp Z Z H (upd H a u) ∧ Wd C B Z (upd H a u) σ e ((o', .ref a) :: T) := by
  obtain ⟨F, G, h1, h2, h3, h4⟩ := W.ex
  simp only [Temps] at h2
  obtain ⟨G1, G2, e2, h5, h6⟩ := h2
  have e3 := ho G1 h5
  subst e3 e2
  have h3' := (List.perm_middle (a := a) (l₁ := F) (l₂ := G2)).nodup_iff.mp h3
  have na : a ∉ F ++ G2 := (List.nodup_cons.mp h3').1
  have za : ¬ Z a := (h4 a (List.mem_append_right _ List.mem_cons_self)).1
  have ma : B.mine a := (h4 a (List.mem_append_right _ List.mem_cons_self)).2
  obtain ⟨x, qx, nx⟩ := h5.own a (List.mem_singleton_self a)
  have k : Kp Z Z H (upd H a u) := ⟨fun _ h => h, fun b z => upd_ne fun q => za (q ▸ z), fun b xs q => (upd_ne fun q2 => by subst q2; rw [qx] at q; cases q; exact nx xs rfl).trans q⟩
  have kF : ∀ b ∈ F, upd H a u b = H b := fun b hb => upd_ne fun q => na (q ▸ List.mem_append_left _ hb)
  have kG : ∀ b ∈ G2, upd H a u b = H b := fun b hb => upd_ne fun q => na (q ▸ List.mem_append_right _ hb)
  refine ⟨k, ⟨F, [a] ++ G2, h1.keep k kF, ?_, h3, h4⟩, fun b z => ?_, W.z0, W.z1, fun b y q hf => ?_, W.io⟩
  · simp only [Temps]
    exact ⟨[a], G2, rfl, r k, h6.keep k kG⟩
  · obtain ⟨y, q⟩ := W.zs b z
    exact ⟨y, (k.h b z).trans q⟩
  · refine (upd_ne fun q2 => ?_).trans (W.fr b y q hf)
    subst q2
    rcases ma with m | m
    · rw [m] at q; cases q
    · exact hf m
end
end DS
/-! DS2: dicts whose keys are any mixture of None, numbers, texts and tuples of such. -/
namespace DS
open PySem PySem.Spec PyProof.Rows L2
/-- an entry: the key as data, its value, the value stored -/
abbrev En := NestedKey × Value × Value
def En.ent (w : World) (x : En) : DictEntry := ⟨x.1.hash w, x.2.1, x.2.2⟩
/-- the entries xs stand in the dict object at d -/
structure GD (w : World) (h : Heap) (d : Addr) (o : Obj) (xs : List En) : Prop where
  get : h.get? d = some o
  ex : o.ExactDict
  dat : ∃ es ep, o.data = .dict es ep ∧ es.toList = xs.map (En.ent w)
  key : ∀ x ∈ xs, NestedIs h x.1 x.2.1 ∧ x.1.depth ≤ 8
  nd : (xs.map (·.1)).Nodup
def gat (xs : List En) (k : NestedKey) : Option Value := (xs.find? fun x => decide (x.1 = k)).map (·.2.2)
def gput (xs : List En) (k : NestedKey) (kv v : Value) : List En :=
  if k ∈ xs.map (·.1) then xs.map fun x => if x.1 = k then (x.1, x.2.1, v) else x else xs ++ [(k, kv, v)]
def gdel (xs : List En) (k : NestedKey) : List En := xs.filter fun (x : En) => decide (x.1 ≠ k)
theorem nodup_at {xs : List En} (hn : (xs.map (·.1)).Nodup) {i j : Nat} {k : NestedKey} {p q : Value × Value} (hi : xs[i]? = some (k, p)) (hj : xs[j]? = some (k, q)) : i = j := by
  have a : (xs.map (·.1))[i]? = some k := by simp [hi]
  have b : (xs.map (·.1))[j]? = some k := by simp [hj]
  exact nodup_ix' hn a b
where nodup_ix' {N : List NestedKey} (hN : N.Nodup) {i j : Nat} {x : NestedKey} (a : N[i]? = some x) (b : N[j]? = some x) : i = j := by
        obtain ⟨h1, e1⟩ := List.getElem?_eq_some_iff.mp a
        obtain ⟨h2, e2⟩ := List.getElem?_eq_some_iff.mp b
        exact (List.getElem_inj hN).mp (e1.trans e2.symm)
theorem gat_of {xs : List En} {k : NestedKey} (hn : (xs.map (·.1)).Nodup) {j : Nat} {p : Value × Value} (h : xs[j]? = some (k, p)) : gat xs k = some p.2 := by
  unfold gat
  cases q : xs.find? (fun x => decide (x.1 = k)) with
  | none =>
    have := List.find?_eq_none.mp q (k, p) (List.mem_of_getElem? h)
    simp at this
  | some y =>
    have hk : y.1 = k := of_decide_eq_true (List.find?_some (p := fun (x : En) => decide (x.1 = k)) q)
    obtain ⟨i, hi⟩ := List.mem_iff_getElem?.mp (List.mem_of_find?_eq_some q)
    have e : i = j := nodup_at hn (k := k) (p := y.2) (by rw [hi, ← hk]) h
    subst e
    rw [hi] at h
    cases h
    rfl
theorem gat_none {xs : List En} {k : NestedKey} (h : ∀ x ∈ xs, x.1 ≠ k) : gat xs k = none := by
  unfold gat
  have q : xs.find? (fun (x : En) => decide (x.1 = k)) = none := List.find?_eq_none.mpr fun (x : En) hx => by simp [h x hx]
  rw [q]
  rfl
section
variable {prog : Program} {w : World} {A : Around} {E : Value → Shared → Prop} {s : Shared}
theorem eq_keys {x y : NestedKey} {u v : Value} {Q : Bool → Shared → Prop} (hx : NestedIs s.heap x u) (hy : NestedIs s.heap y v) (h8 : x.depth ≤ 8) (hu : A.units + 8 < cLine) (h : Q (decide (x = y)) s) : wpAny (model prog w) A (eqBool u v) Q E s := by
  refine eqAt_key x y A s u v hx hy ?_ prog w E Q ?_
  · exact Nat.lt_of_le_of_lt (Nat.add_le_add_left (Nat.le_trans (Nat.min_le_left _ _) h8) _) hu
  · rw [← NestedKey.decide_eq]; exact h
theorem quiet_all {kv : Value} {k : NestedKey} {st : List Value} {Q : Bool → Shared → Prop} (hk : NestedIs s.heap k kv) (h8 : k.depth ≤ 8) (hs : ∀ v ∈ st, ∃ j, NestedIs s.heap j v ∧ j.depth ≤ 8) (h : Q false s) : wpAny (model prog w) A (tableMayTell kv st) Q E s := by
  unfold tableMayTell
  by_cases he : st.isEmpty = true
  · rw [if_pos he]
    exact wpAny_pure h
  · rw [if_neg he]
    refine wpAny_bind (quiet_key k kv 8 s hk h8 A E _ ?_)
    refine wpAny_bind ?_
    refine wpAny_forIn_list _ (fun r b s' => s' = s ∧ b = (none, ()) ∧ ∀ v ∈ r, ∃ j, NestedIs s.heap j v ∧ j.depth ≤ 8) _ ?_ ?_ st _ ⟨rfl, rfl, hs⟩
    · rintro v r b s' ⟨rfl, rfl, hr⟩
      obtain ⟨j, hj, h8j⟩ := hr v List.mem_cons_self
      exact wpAny_bind (quiet_key j v 8 _ hj h8j A E _ (wpAny_pure ⟨rfl, rfl, fun z hz => hr z (List.mem_cons_of_mem _ hz)⟩))
    · rintro b s' ⟨rfl, rfl, _⟩
      exact wpAny_pure h
theorem GD.at {d : Addr} {o : Obj} {xs : List En} (g : GD w s.heap d o xs) {es : Array DictEntry} (he : es.toList = xs.map (En.ent w)) (j : Nat) : es[j]? = (xs[j]?).map (En.ent w) := by
  rw [← Array.getElem?_toList, he, List.getElem?_map]
theorem placesMem {es : Array DictEntry} {h : Int} {i : Nat} : i ∈ placesWithHash es.size (fun i => es[i]?.map (·.hash)) h ↔ ∃ e, es[i]? = some e ∧ e.hash = h := by
  unfold placesWithHash
  rw [List.mem_filter, List.mem_range]
  constructor
  · rintro ⟨h1, h2⟩
    refine ⟨es[i], Array.getElem?_eq_getElem h1, ?_⟩
    have h3 : (es[i]?.map (·.hash) == some h) = true := h2
    rw [Array.getElem?_eq_getElem h1] at h3
    simpa using h3
  · rintro ⟨e, h1, h2⟩
    obtain ⟨q, _⟩ := Array.getElem?_eq_some_iff.mp h1
    refine ⟨q, ?_⟩
    simp [h1, h2]
theorem placesNd {es : Array DictEntry} {h : Int} : (placesWithHash es.size (fun i => es[i]?.map (·.hash)) h).Nodup := List.nodup_range.filter _
/-- where a key stands -/
theorem gfind {d : Addr} {o : Obj} {es : Array DictEntry} {ep : Nat} {xs : List En} {k : NestedKey} {kv : Value} {Q : Option Nat → Shared → Prop} (hu : A.units + 8 < cLine) (hk : NestedIs s.heap k kv) (h8 : k.depth ≤ 8)
    (g : GD w s.heap d o xs) (hd : o.data = .dict es ep) (he : es.toList = xs.map (En.ent w)) (hnone : (∀ x ∈ xs, x.1 ≠ k) → Q none s) (hsome : ∀ (j : Nat) (p : Value × Value), xs[j]? = some (k, p) → Q (some j) s) :
    wpAny (model prog w) A (dictFind d kv (k.hash w)) Q E s := by
  have hat : ∀ j, es[j]? = (xs[j]?).map (En.ent w) := fun j => g.at he j
  have ofE : ∀ (i : Nat) (e : DictEntry), es[i]? = some e → ∃ x, xs[i]? = some x ∧ e = En.ent w x ∧ NestedIs s.heap x.1 x.2.1 ∧ x.1.depth ≤ 8 := by
    intro i e hi
    rw [hat i] at hi
    cases q : xs[i]? with
    | none => rw [q] at hi; cases hi
    | some x =>
      rw [q] at hi
      have e1 : En.ent w x = e := by simpa using hi
      exact ⟨x, rfl, e1.symm, g.key x (List.mem_of_getElem? q)⟩
  have ho := g.get
  unfold dictFind
  refine wpAny_holding (wpAny_bind (wpAny_dictEntries ho hd ?_))
  dsimp only
  -- what the loops have in common: the walk by places
  have miss : (∀ i ∈ placesWithHash es.size (fun i => es[i]?.map (·.hash)) (k.hash w), ∀ x, xs[i]? = some x → x.1 ≠ k) → ∀ x ∈ xs, x.1 ≠ k := by
    intro hm x hx e
    obtain ⟨i, hi⟩ := List.mem_iff_getElem?.mp hx
    refine hm i (placesMem.mpr ⟨En.ent w x, by rw [hat i, hi]; rfl, ?_⟩) x hi e
    rw [← e]; rfl
  have plain : wpAny (model prog w) A (dictWalkPlain d kv (k.hash w) es (placesWithHash es.size (fun i => es[i]?.map (·.hash)) (k.hash w))) Q E s := by
    unfold dictWalkPlain
    refine wpAny_bind ?_
    refine wpAny_forIn_list _ (fun r b s' => s' = s ∧ b = (none, ()) ∧ ∃ done, placesWithHash es.size (fun i => es[i]?.map (·.hash)) (k.hash w) = done ++ r ∧ ∀ i ∈ done, ∀ x, xs[i]? = some x → x.1 ≠ k) _ ?_ ?_ _ _ ⟨rfl, rfl, [], rfl, fun i hi => by cases hi⟩
    · rintro i r b s' ⟨rfl, rfl, done, hp, hno⟩
      obtain ⟨e, hi, hh⟩ := placesMem.mp (show i ∈ placesWithHash es.size (fun i => es[i]?.map (·.hash)) (k.hash w) by rw [hp]; exact List.mem_append_right _ List.mem_cons_self)
      obtain ⟨x, hx, rfl, nx, dx⟩ := ofE i e hi
      rw [hi]
      dsimp only
      rw [if_pos (by rw [hh]; exact beq_self_eq_true _)]
      refine wpAny_bind (wpAny_dictEpoch ho hd (wpAny_bind (eq_keys nx hk dx hu (wpAny_bind (wpAny_dictEpoch ho hd ?_)))))
      rw [if_neg (by simp)]
      by_cases hkk : x.1 = k
      · rw [decide_eq_true hkk]
        refine wpAny_bind (wpAny_rule (wpAny_pure (wpAny_pure ?_)))
        subst hkk
        exact hsome i x.2 hx
      · rw [decide_eq_false hkk]
        refine wpAny_bind (wpAny_rule (wpAny_pure ⟨rfl, rfl, done ++ [i], by simp [hp], fun j hj y hy => ?_⟩))
        rcases List.mem_append.mp hj with hj | hj
        · exact hno j hj y hy
        · have ej : j = i := by simpa using hj
          subst ej
          rw [hx] at hy
          cases hy
          exact hkk
    · rintro b s' ⟨rfl, rfl, done, hp, hno⟩
      refine wpAny_pure (hnone (miss fun i hi => hno i ?_))
      rw [hp] at hi
      simpa using hi
  have step : ∀ (i : Nat) (r : List Nat) (hit : Option Nat), (∃ done, placesWithHash es.size (fun i => es[i]?.map (·.hash)) (k.hash w) = done ++ i :: r ∧ ((hit = none ∧ ∀ j ∈ done, ∀ x, xs[j]? = some x → x.1 ≠ k) ∨ ∃ j p, hit = some j ∧ j ∈ done ∧ xs[j]? = some (k, p))) →
      ∃ x : En, es[i]? = some (En.ent w x) ∧ xs[i]? = some x ∧ NestedIs s.heap x.1 x.2.1 ∧ x.1.depth ≤ 8 ∧ (En.ent w x).hash = k.hash w ∧ (x.1 = k → hit = none ∧ (∃ done, placesWithHash es.size (fun i => es[i]?.map (·.hash)) (k.hash w) = done ++ r ∧ ∃ j p, (some i : Option Nat) = some j ∧ j ∈ done ∧ xs[j]? = some (k, p))) ∧
        (x.1 ≠ k → ∃ done, placesWithHash es.size (fun i => es[i]?.map (·.hash)) (k.hash w) = done ++ r ∧ ((hit = none ∧ ∀ j ∈ done, ∀ x, xs[j]? = some x → x.1 ≠ k) ∨ ∃ j p, hit = some j ∧ j ∈ done ∧ xs[j]? = some (k, p))) := by
    rintro i r hit ⟨done, hp, hh⟩
    obtain ⟨e, hi, hs⟩ := placesMem.mp (show i ∈ placesWithHash es.size (fun i => es[i]?.map (·.hash)) (k.hash w) by rw [hp]; exact List.mem_append_right _ List.mem_cons_self)
    obtain ⟨x, hx, rfl, nx, dx⟩ := ofE i e hi
    have nd := placesNd (es := es) (h := k.hash w)
    rw [hp] at nd
    have ni : i ∉ done := fun hm => (List.nodup_append.mp nd).2.2 i hm i List.mem_cons_self rfl
    refine ⟨x, hi, hx, nx, dx, hs, fun hk2 => ?_, fun hk2 => ?_⟩
    · subst hk2
      rcases hh with ⟨h0, _⟩ | ⟨j, p, _, hj, hjx⟩
      · exact ⟨h0, done ++ [i], by simp [hp], i, x.2, rfl, by simp, hx⟩
      · have := nodup_at g.nd (k := x.1) (p := p) hjx (show xs[i]? = some (x.1, x.2) from hx)
        subst this
        exact absurd hj ni
    · refine ⟨done ++ [i], by simp [hp], ?_⟩
      rcases hh with ⟨h0, hno⟩ | ⟨j, p, hj0, hj, hjx⟩
      · refine .inl ⟨h0, fun j hj y hy => ?_⟩
        rcases List.mem_append.mp hj with hj | hj
        · exact hno j hj y hy
        · have ej : j = i := by simpa using hj
          subst ej
          rw [hx] at hy
          cases hy
          exact hk2
      · exact .inr ⟨j, p, hj0, List.mem_append_left _ hj, hjx⟩
  have stored : ∀ v ∈ (placesWithHash es.size (fun i => es[i]?.map (·.hash)) (k.hash w)).filterMap (fun i => es[i]?.map (·.key)), ∃ j, NestedIs s.heap j v ∧ j.depth ≤ 8 := by
    intro v hv
    obtain ⟨i, _, hi⟩ := List.mem_filterMap.mp hv
    cases q : es[i]? with
    | none => rw [q] at hi; cases hi
    | some e =>
      obtain ⟨x, hx, rfl, nx, dx⟩ := ofE i e q
      rw [q] at hi
      have e2 : x.2.1 = v := by simpa [En.ent] using hi
      exact ⟨x.1, e2 ▸ nx, dx⟩
  have nochg : ¬ (es.any fun e => e.key == kv && e.hash != k.hash w) = true := by
    intro hc
    obtain ⟨i, hi, hq⟩ := Array.any_eq_true.mp hc
    obtain ⟨x, hx, e1, nx, dx⟩ := ofE i es[i] (Array.getElem?_eq_getElem hi)
    rw [e1] at hq
    simp only [En.ent, Bool.and_eq_true, beq_iff_eq, bne_iff_ne, ne_eq] at hq
    obtain ⟨q1, q2⟩ := hq
    rw [q1] at nx
    exact q2 (by rw [NestedIs.inj _ _ _ nx hk])
  have loop : ∀ (f : Nat → Option (Option Nat) × Option Nat → Sem (ForInStep (Option (Option Nat) × Option Nat))) (fin : Option (Option Nat) × Option Nat → Sem (Option Nat)),
      (∀ i hit, ∀ x : En, es[i]? = some (En.ent w x) → (En.ent w x).hash = k.hash w → NestedIs s.heap x.1 x.2.1 → x.1.depth ≤ 8 → ∀ (R : ForInStep (Option (Option Nat) × Option Nat) → Shared → Prop),
        (x.1 = k → hit = none ∧ R (.done (some (some i), hit)) s ∧ R (.yield (none, some i)) s) → (x.1 ≠ k → R (.yield (none, hit)) s) → wpAny (model prog w) A (f i (none, hit)) R E s) →
      (∀ r hit, fin (some r, hit) = pure r) → (∀ hit, fin (none, hit) = pure hit) →
      wpAny (model prog w) A (forIn (placesWithHash es.size (fun i => es[i]?.map (·.hash)) (k.hash w)) (none, none) f >>= fin) Q E s := by
    intro f fin hf hr1 hr2
    refine wpAny_bind ?_
    refine wpAny_forIn_list _ (fun r b s' => s' = s ∧ ∃ hit, b = (none, hit) ∧ ∃ done, placesWithHash es.size (fun i => es[i]?.map (·.hash)) (k.hash w) = done ++ r ∧ ((hit = none ∧ ∀ j ∈ done, ∀ x, xs[j]? = some x → x.1 ≠ k) ∨ ∃ j p, hit = some j ∧ j ∈ done ∧ xs[j]? = some (k, p))) _ ?_ ?_ _ _ ⟨rfl, none, rfl, [], rfl, .inl ⟨rfl, fun j hj => by cases hj⟩⟩
    · rintro i r b s' ⟨rfl, hit, rfl, hI⟩
      obtain ⟨x, h1, h2, h3, h4, h5, h6, h7⟩ := step i r hit hI
      refine hf i hit x h1 h5 h3 h4 _ (fun hk2 => ?_) fun hk2 => ?_
      · obtain ⟨q1, done, q2, j, p, q3, q4, q5⟩ := h6 hk2
        refine ⟨q1, ?_, rfl, some i, rfl, done, q2, .inr ⟨j, p, q3, q4, q5⟩⟩
        show wpAny (model prog w) A (fin (some (some i), hit)) Q E s'
        rw [hr1]
        cases q3
        exact wpAny_pure (hsome _ p q5)
      · exact ⟨rfl, hit, rfl, h7 hk2⟩
    · rintro b s' ⟨rfl, hit, rfl, done, hp, hh⟩
      rw [hr2]
      rcases hh with ⟨rfl, hno⟩ | ⟨j, p, rfl, _, hjx⟩
      · refine wpAny_pure (hnone (miss fun i hi => hno i ?_))
        rw [hp] at hi
        simpa using hi
      · exact wpAny_pure (hsome j p hjx)
  have onward : ∀ (st : List Value), st = (placesWithHash es.size (fun i => es[i]?.map (·.hash)) (k.hash w)).filterMap (fun i => es[i]?.map (·.key)) → ∀ (c : Prop) [Decidable c] (Y : Bool → Sem (Option Nat)), (wpAny (model prog w) A (Y false) Q E s) → wpAny (model prog w) A (if c then (do let tells ← pure false; Y tells) else (do let tells ← tableMayTell kv st; Y tells)) Q E s := by
    intro st hst c _ Y hY
    by_cases hc : c
    · rw [if_pos hc]
      exact wpAny_bind (wpAny_pure hY)
    · rw [if_neg hc]
      exact wpAny_bind (quiet_all hk h8 (by rw [hst]; exact stored) hY)
  have hk0 := hk
  cases hk
  case text z t =>
    dsimp only
    by_cases hall : (es.all fun e => isExactStrKey e.key) = true
    · rw [if_pos hall]
      unfold foundByValue
      cases q : es.findIdx? (fun e => e.key.isStr z) with
      | none =>
        refine wpAny_pure (hnone fun x hx e => ?_)
        obtain ⟨i, hi⟩ := List.mem_iff_getElem?.mp hx
        have hm := (Array.findIdx?_eq_none_iff.mp q) (En.ent w x) (Array.mem_of_getElem? (by rw [hat i, hi]; rfl : es[i]? = some (En.ent w x)))
        have nx := (g.key x hx).1
        rw [e] at nx
        cases h2 : x.2.1 with
        | str y u =>
          rw [h2] at nx
          cases nx
          simp [En.ent, h2, Value.isStr] at hm
        | _ => rw [h2] at nx; cases nx
      | some i =>
        obtain ⟨hi, hp, _⟩ := Array.findIdx?_eq_some_iff_getElem.mp q
        obtain ⟨x, hx, e1, nx, dx⟩ := ofE i es[i] (Array.getElem?_eq_getElem hi)
        have hk2 : x.1 = .text z := by
          rw [e1] at hp
          cases h2 : x.2.1 with
          | str y u =>
            rw [h2] at nx
            cases e0 : x.1 with
            | text y' =>
              rw [e0] at nx
              cases nx
              have : y = z := by simpa [En.ent, h2, Value.isStr] using hp
              rw [this]
            | _ => rw [e0] at nx; cases nx
          | _ => simp [En.ent, h2, Value.isStr] at hp
        dsimp only
        rw [Array.getElem?_eq_getElem hi, e1]
        dsimp only
        refine wpAny_bind (wpAny_dictEpoch ho hd (wpAny_bind (eq_keys nx (NestedIs.text z t) dx hu (wpAny_bind (wpAny_dictEpoch ho hd ?_)))))
        rw [if_neg (by simp), decide_eq_true hk2]
        refine wpAny_bind (wpAny_rule (wpAny_pure (hsome i x.2 ?_)))
        rw [hx, ← hk2]
    · rw [if_neg hall]
      by_cases hb : (Value.str z t :: (placesWithHash es.size (fun i => es[i]?.map (·.hash)) ((NestedKey.text z).hash w)).filterMap (fun i => es[i]?.map (·.key))).all carriedByValue = true
      · rw [if_pos hb]; exact plain
      · rw [if_neg hb]
        refine onward _ rfl _ _ ?_
        rw [if_neg (by simp)]
        refine loop _ _ (fun i hit x hi hh nx dx R r1 r2 => ?_) (fun _ _ => rfl) (fun _ => rfl)
        rw [hi]
        dsimp only
        rw [if_pos (by rw [hh]; exact beq_self_eq_true _)]
        refine wpAny_bind (wpAny_dictEpoch ho hd (wpAny_bind (eq_keys nx hk0 dx hu (wpAny_bind (wpAny_dictEpoch ho hd ?_)))))
        rw [if_neg (by simp)]
        by_cases hkk : x.1 = (NestedKey.text z)
        · rw [decide_eq_true hkk]
          obtain ⟨rfl, d1, d2⟩ := r1 hkk
          rw [if_pos rfl, if_neg (by simp)]
          refine wpAny_bind (wpAny_rule ?_)
          split
          · exact wpAny_pure d1
          · exact wpAny_pure d2
        · rw [decide_eq_false hkk, if_neg (by simp)]
          refine wpAny_bind (wpAny_rule ?_)
          rw [if_neg (by simp)]
          exact wpAny_pure (r2 hkk)
  case none =>
    dsimp only
    by_cases hb : (Value.none :: (placesWithHash es.size (fun i => es[i]?.map (·.hash)) (NestedKey.none.hash w)).filterMap (fun i => es[i]?.map (·.key))).all carriedByValue = true
    · rw [if_pos hb]; exact plain
    · rw [if_neg hb]
      refine onward _ rfl _ _ ?_
      rw [if_neg (by simp)]
      refine loop _ _ (fun i hit x hi hh nx dx R r1 r2 => ?_) (fun _ _ => rfl) (fun _ => rfl)
      rw [hi]
      dsimp only
      rw [if_pos (by rw [hh]; exact beq_self_eq_true _)]
      refine wpAny_bind (wpAny_dictEpoch ho hd (wpAny_bind (eq_keys nx hk0 dx hu (wpAny_bind (wpAny_dictEpoch ho hd ?_)))))
      rw [if_neg (by simp)]
      by_cases hkk : x.1 = NestedKey.none
      · rw [decide_eq_true hkk]
        obtain ⟨rfl, d1, d2⟩ := r1 hkk
        rw [if_pos rfl, if_neg (by simp)]
        refine wpAny_bind (wpAny_rule ?_)
        split
        · exact wpAny_pure d1
        · exact wpAny_pure d2
      · rw [decide_eq_false hkk, if_neg (by simp)]
        refine wpAny_bind (wpAny_rule ?_)
        rw [if_neg (by simp)]
        exact wpAny_pure (r2 hkk)
  case bool b n e =>
    dsimp only
    by_cases hb : (Value.bool b :: (placesWithHash es.size (fun i => es[i]?.map (·.hash)) ((NestedKey.num n).hash w)).filterMap (fun i => es[i]?.map (·.key))).all carriedByValue = true
    · rw [if_pos hb]; exact plain
    · rw [if_neg hb]
      refine onward _ rfl _ _ ?_
      rw [if_neg (by simp)]
      refine loop _ _ (fun i hit x hi hh nx dx R r1 r2 => ?_) (fun _ _ => rfl) (fun _ => rfl)
      rw [hi]
      dsimp only
      rw [if_pos (by rw [hh]; exact beq_self_eq_true _)]
      refine wpAny_bind (wpAny_dictEpoch ho hd (wpAny_bind (eq_keys nx hk0 dx hu (wpAny_bind (wpAny_dictEpoch ho hd ?_)))))
      rw [if_neg (by simp)]
      by_cases hkk : x.1 = (NestedKey.num n)
      · rw [decide_eq_true hkk]
        obtain ⟨rfl, d1, d2⟩ := r1 hkk
        rw [if_pos rfl, if_neg (by simp)]
        refine wpAny_bind (wpAny_rule ?_)
        split
        · exact wpAny_pure d1
        · exact wpAny_pure d2
      · rw [decide_eq_false hkk, if_neg (by simp)]
        refine wpAny_bind (wpAny_rule ?_)
        rw [if_neg (by simp)]
        exact wpAny_pure (r2 hkk)
  case int n t =>
    dsimp only
    by_cases hb : (Value.int n t :: (placesWithHash es.size (fun i => es[i]?.map (·.hash)) ((NestedKey.num n).hash w)).filterMap (fun i => es[i]?.map (·.key))).all carriedByValue = true
    · rw [if_pos hb]; exact plain
    · rw [if_neg hb]
      refine onward _ rfl _ _ ?_
      rw [if_neg (by simp)]
      refine loop _ _ (fun i hit x hi hh nx dx R r1 r2 => ?_) (fun _ _ => rfl) (fun _ => rfl)
      rw [hi]
      dsimp only
      rw [if_pos (by rw [hh]; exact beq_self_eq_true _)]
      refine wpAny_bind (wpAny_dictEpoch ho hd (wpAny_bind (eq_keys nx hk0 dx hu (wpAny_bind (wpAny_dictEpoch ho hd ?_)))))
      rw [if_neg (by simp)]
      by_cases hkk : x.1 = (NestedKey.num n)
      · rw [decide_eq_true hkk]
        obtain ⟨rfl, d1, d2⟩ := r1 hkk
        rw [if_pos rfl, if_neg (by simp)]
        refine wpAny_bind (wpAny_rule ?_)
        split
        · exact wpAny_pure d1
        · exact wpAny_pure d2
      · rw [decide_eq_false hkk, if_neg (by simp)]
        refine wpAny_bind (wpAny_rule ?_)
        rw [if_neg (by simp)]
        exact wpAny_pure (r2 hkk)
  case tup a ob vs n ks h1 h2 h3 h4 =>
    dsimp only
    by_cases hb : (Value.ref a :: (placesWithHash es.size (fun i => es[i]?.map (·.hash)) ((NestedKey.tup ks).hash w)).filterMap (fun i => es[i]?.map (·.key))).all carriedByValue = true
    · rw [if_pos hb]; exact plain
    · rw [if_neg hb]
      rw [if_neg nochg]
      refine onward _ rfl _ _ ?_
      rw [if_neg (by simp)]
      refine loop _ _ (fun i hit x hi hh nx dx R r1 r2 => ?_) (fun _ _ => rfl) (fun _ => rfl)
      rw [hi]
      dsimp only
      rw [if_pos (by rw [hh]; exact beq_self_eq_true _)]
      refine wpAny_bind (wpAny_dictEpoch ho hd (wpAny_bind (eq_keys nx hk0 dx hu (wpAny_bind (wpAny_dictEpoch ho hd ?_)))))
      rw [if_neg (by simp)]
      by_cases hkk : x.1 = (NestedKey.tup ks)
      · rw [decide_eq_true hkk]
        obtain ⟨rfl, d1, d2⟩ := r1 hkk
        rw [if_pos rfl, if_neg (by simp)]
        refine wpAny_bind (wpAny_rule ?_)
        split
        · exact wpAny_pure d1
        · exact wpAny_pure d2
      · rw [decide_eq_false hkk, if_neg (by simp)]
        refine wpAny_bind (wpAny_rule ?_)
        rw [if_neg (by simp)]
        exact wpAny_pure (r2 hkk)
/-! ### the operations of the model on such a dict -/
theorem GD.upd {d : Addr} {o o' : Obj} {xs ys : List En} {h' : Heap} (g : GD w s.heap d o xs) (sb : Heap.SameBut d s.heap h') (ho : h'.get? d = some o') (hx : o'.ExactDict) (hd : ∃ es ep, o'.data = .dict es ep ∧ es.toList = ys.map (En.ent w)) (hy : ∀ y ∈ ys, NestedIs s.heap y.1 y.2.1 ∧ y.1.depth ≤ 8) (nd : (ys.map (·.1)).Nodup) : GD w h' d o' ys := by
  refine ⟨ho, hx, hd, fun y hm => ⟨?_, (hy y hm).2⟩, nd⟩
  obtain ⟨es, ep, e1, _⟩ := g.dat
  refine (hy y hm).1.at (fun a ob vs n q1 q2 => ?_) _ _
  by_cases ha : a = d
  · subst ha
    rw [g.get] at q1
    cases q1
    rw [e1] at q2
    cases q2
  · exact (sb.2 a ha).trans q1
theorem GD.raw {d : Addr} {o : Obj} {xs : List En} (g : GD w s.heap d o xs) : ∃ es ep, s.heap.DictRaw d es ep ∧ es.toList = xs.map (En.ent w) ∧ es.size = xs.length := by
  obtain ⟨es, ep, e1, e2⟩ := g.dat
  exact ⟨es, ep, ⟨o, g.get, g.ex, e1⟩, e2, by rw [← Array.length_toList, e2, List.length_map]⟩
theorem GD.ty {d : Addr} {o : Obj} {xs : List En} (g : GD w s.heap d o xs) : s.TypeIs (.ref d) "dict" := let ⟨_, _, r, _⟩ := g.raw; r.typeIs
section
variable {d : Addr} {o : Obj} {xs : List En} {k : NestedKey} {kv v : Value}
theorem gget {Q : Option Value → Shared → Prop} (hu : A.units + 8 < cLine) (hk : NestedIs s.heap k kv) (h8 : k.depth ≤ 8) (g : GD w s.heap d o xs) (h : ∀ t, Q (gat xs k) { s with toks := t }) : wpAny (model prog w) A (dictGet d kv) Q E s := by
  obtain ⟨es, ep, e1, e2⟩ := g.dat
  unfold dictGet
  refine wpAny_holding (wpAny_bind (pyHash_key k kv A s _ hk (Nat.lt_of_le_of_lt (Nat.add_le_add_left h8 _) hu) (wpAny_bind ?_)))
  refine gfind (s := { s with toks := s.toks + k.draws }) (xs := xs) (o := o) hu hk h8 g e1 e2 (fun hn => ?_) fun j p hj => ?_
  · rw [← gat_none hn]
    exact wpAny_pure (h _)
  · refine wpAny_bind (wpAny_dictEntries (s := { s with toks := s.toks + k.draws }) g.get e1 ?_)
    have q : es[j]? = some (En.ent w (k, p)) := by rw [g.at e2 j, hj]; rfl
    rw [q]
    have := h (s.toks + k.draws)
    rw [gat_of g.nd hj] at this
    exact wpAny_pure this
theorem gset {Q : Unit → Shared → Prop} (hu : A.units + 8 < cLine) (hk : NestedIs s.heap k kv) (h8 : k.depth ≤ 8) (g : GD w s.heap d o xs) (hz : xs.length ≤ sizeLine)
    (h : ∀ h' o' t, GD w h' d o' (gput xs k kv v) → Heap.SameBut d s.heap h' → Q () { s with heap := h', toks := t }) : wpAny (model prog w) A (dictSet d kv v) Q E s := by
  obtain ⟨es, ep, e1, e2⟩ := g.dat
  have hsz : es.size = xs.length := by rw [← Array.length_toList, e2, List.length_map]
  unfold dictSet
  refine wpAny_holding (wpAny_bind (pyHash_key k kv A s _ hk (Nat.lt_of_le_of_lt (Nat.add_le_add_left h8 _) hu) ?_))
  unfold dictSetHashed
  refine wpAny_holding (wpAny_bind ?_)
  refine gfind (s := { s with toks := s.toks + k.draws }) (xs := xs) (o := o) hu hk h8 g e1 e2 (fun hn => ?_) fun j p hj => ?_
  · have nk : k ∉ xs.map (·.1) := by
      intro hm
      obtain ⟨x, hx, e⟩ := List.mem_map.mp hm
      exact hn x hx e
    refine wpAny_bind (wpAny_rule (wpAny_updateDictKeys (hz := by omega) (s := { s with toks := s.toks + k.draws }) g.get e1 ?_))
    refine h _ _ _ (GD.upd g (Heap.SameBut.update ..) (Heap.get?_update_self _ g.get (Obj.isFreed_of_dict (Obj.data_mapDictKeys e1 _))) (g.ex.mapDictKeys _) ⟨_, ep + 1, Obj.data_mapDictKeys e1 _, ?_⟩ ?_ ?_) (Heap.SameBut.update ..)
    · unfold gput
      rw [if_neg nk, Array.toList_push, e2, List.map_append]
      rfl
    · unfold gput
      rw [if_neg nk]
      intro y hy
      rcases List.mem_append.mp hy with hy | hy
      · exact g.key y hy
      · rw [List.mem_singleton] at hy
        subst hy
        exact ⟨hk, h8⟩
    · unfold gput
      rw [if_neg nk, List.map_append, List.nodup_append]
      refine ⟨g.nd, by simp, fun a ha b hb => ?_⟩
      have : b = k := by simpa using hb
      subst this
      exact fun e => nk (e ▸ ha)
  · have hk2 : k ∈ xs.map (·.1) := List.mem_map.mpr ⟨(k, p), List.mem_of_getElem? hj, rfl⟩
    refine wpAny_bind (wpAny_rule (wpAny_bind (wpAny_updateDict (s := { s with toks := s.toks + k.draws }) g.get e1 (wpAny_point ?_))))
    refine h _ _ _ (GD.upd g (Heap.SameBut.update ..) (Heap.get?_update_self _ g.get (Obj.isFreed_of_dict (Obj.data_mapDict e1 _))) (g.ex.mapDict _) ⟨_, _, Obj.data_mapDict e1 _, ?_⟩ ?_ ?_) (Heap.SameBut.update ..)
    · unfold gput
      rw [if_pos hk2]
      have hjl : j < es.size := by rw [hsz]; exact (List.getElem?_eq_some_iff.mp hj).1
      apply List.ext_getElem?
      intro i
      rw [Array.toList_modify, List.getElem?_modify, e2, List.map_map, List.getElem?_map, List.getElem?_map]
      by_cases hij : j = i
      · subst hij
        rw [hj]
        simp [En.ent]
      · simp only [if_neg hij]
        cases q : xs[i]? with
        | none => rfl
        | some x =>
          have nx : x.1 ≠ k := fun e => hij (nodup_at g.nd (k := k) (p := p) hj (show xs[i]? = some (k, x.2) by rw [q, ← e])).symm.symm
          simp [nx]
    · unfold gput
      rw [if_pos hk2]
      intro y hy
      obtain ⟨x, hx, e⟩ := List.mem_map.mp hy
      by_cases hxk : x.1 = k
      · rw [if_pos hxk] at e; subst e; exact g.key x hx
      · rw [if_neg hxk] at e; subst e; exact g.key x hx
    · unfold gput
      rw [if_pos hk2]
      have q : (xs.map fun x => if x.1 = k then (x.1, x.2.1, v) else x).map (·.1) = xs.map (·.1) := by
        rw [List.map_map]
        refine List.map_congr_left fun x _ => ?_
        by_cases hxk : x.1 = k <;> simp [hxk]
      rw [q]
      exact g.nd
theorem g_getItem {Q : Value → Shared → Prop} (hu : A.in1.units + 8 < cLine) (hk : NestedIs s.heap k kv) (h8 : k.depth ≤ 8) (g : GD w s.heap d o xs) (hv : gat xs k = some v) (h : ∀ t, Q v { s with toks := t }) : wpAny (model prog w) A (getItem (.ref d) kv) Q E s := by
  unfold getItem
  refine wpAny_holding (wpAny_bind (wpAny_sequenceKey g.ty (by decide) (wpAny_bind (wpAny_callSpecial?_slot (name := Str.ofString "__getitem__") g.ty slot_dict_getitem (wpAny_call_entry slot_dict_getitem g.ty entry_dict_getitem ?_ (args_dict_getitem _ _))))))
  show wpAny _ _ (dictGet d kv >>= _) _ _ s
  refine wpAny_bind (gget hu hk h8 g fun t => ?_)
  rw [hv]
  exact wpAny_pure ⟨v, rfl, wpAny_pure (h t)⟩
theorem g_contains {Q : Bool → Shared → Prop} (hu : A.in1.units + 8 < cLine) (hk : NestedIs s.heap k kv) (h8 : k.depth ≤ 8) (hd : (d == sysModules) = false) (g : GD w s.heap d o xs) (h : ∀ t, Q (gat xs k).isSome { s with toks := t }) : wpAny (model prog w) A (contains (.ref d) kv) Q E s := by
  refine wpAny_contains_slot g.ty F.slot_dict_contains (wpAny_call_entry F.slot_dict_contains g.ty F.entry_dict_contains ?_ (F.args_dict_contains_2 _ _))
  show wpAny _ _ (dictGet d kv >>= _) _ _ s
  refine wpAny_bind (gget hu hk h8 g fun t => ?_)
  have hq := h t
  cases q : gat xs k with
  | some z =>
    rw [q] at hq
    exact wpAny_pure ⟨.bool true, rfl, wpAny_truthy_bool hq⟩
  | none =>
    rw [q] at hq
    show wpAny _ _ (Builtin.Dict.pendingKey? d kv >>= _) _ _ _
    exact wpAny_bind (wpAny_pendingKey_other hd (wpAny_pure ⟨.bool false, rfl, wpAny_truthy_bool hq⟩))
theorem g_get1 {Q : Value → Shared → Prop} (hu : A.in1.units + 8 < cLine) (hk : NestedIs s.heap k kv) (h8 : k.depth ≤ 8) (hd : (d == sysModules) = false) (g : GD w s.heap d o xs) (h : ∀ t, Q ((gat xs k).getD .none) { s with toks := t }) : wpAny (model prog w) A (call (.builtin "dict.get") [.ref d, kv]) Q E s := by
  refine wpAny_call_entry F.slot_dict_get g.ty F.entry_dict_get ?_ (F.args_dict_get_2 _ _)
  show wpAny _ _ (dictGet d kv >>= _) _ _ s
  refine wpAny_bind (gget hu hk h8 g fun t => ?_)
  have hq := h t
  cases q : gat xs k with
  | some z =>
    rw [q] at hq
    exact wpAny_pure ⟨z, rfl, hq⟩
  | none =>
    rw [q] at hq
    show wpAny _ _ (Builtin.Dict.missed d kv >>= _) _ _ _
    exact wpAny_bind (wpAny_missed_other hd (wpAny_pure ⟨.none, rfl, hq⟩))
theorem g_get2 {y : Value} {Q : Value → Shared → Prop} (hu : A.in1.units + 8 < cLine) (hk : NestedIs s.heap k kv) (h8 : k.depth ≤ 8) (hd : (d == sysModules) = false) (g : GD w s.heap d o xs) (h : ∀ t, Q ((gat xs k).getD y) { s with toks := t }) : wpAny (model prog w) A (call (.builtin "dict.get") [.ref d, kv, y]) Q E s := by
  refine wpAny_call_entry F.slot_dict_get g.ty F.entry_dict_get ?_ (F.args_dict_get_3 _ _ _)
  show wpAny _ _ (dictGet d kv >>= _) _ _ s
  refine wpAny_bind (gget hu hk h8 g fun t => ?_)
  have hq := h t
  cases q : gat xs k with
  | some z =>
    rw [q] at hq
    exact wpAny_pure ⟨z, rfl, hq⟩
  | none =>
    rw [q] at hq
    show wpAny _ _ (Builtin.Dict.missed d kv >>= _) _ _ _
    exact wpAny_bind (wpAny_missed_other hd (wpAny_pure ⟨y, rfl, hq⟩))
theorem g_setItem {Q : Unit → Shared → Prop} (hu : A.in1.units + 8 < cLine) (hk : NestedIs s.heap k kv) (h8 : k.depth ≤ 8) (g : GD w s.heap d o xs) (hz : xs.length ≤ sizeLine)
    (h : ∀ h' o' t, GD w h' d o' (gput xs k kv v) → Heap.SameBut d s.heap h' → Q () { s with heap := h', toks := t }) : wpAny (model prog w) A (setItem (.ref d) kv v) Q E s := by
  unfold setItem
  refine wpAny_holding (wpAny_bind (wpAny_sequenceKey g.ty (by decide) (wpAny_bind (wpAny_callSpecial?_slot (name := Str.ofString "__setitem__") g.ty slot_dict_setitem (wpAny_call_entry slot_dict_setitem g.ty entry_dict_setitem ?_ (args_dict_setitem _ _ _))))))
  show wpAny _ _ (Builtin.Dict.notOrdered "__setitem__" ⟨[.ref d, kv, v], []⟩ >>= _) _ _ s
  refine wpAny_bind (wpAny_notOrdered_dict g.ty ?_)
  show wpAny _ _ (dictSet d kv v >>= _) _ _ s
  exact wpAny_bind (gset hu hk h8 g hz fun h' o' t g' sb => wpAny_pure ⟨.none, rfl, wpAny_pure (h h' o' t g' sb)⟩)
theorem g_len {Q : Value → Shared → Prop} (hd : (d == sysModules) = false) (g : GD w s.heap d o xs) (h : Q (.int xs.length s.toks) { s with toks := s.toks + 1 }) : wpAny (model prog w) A (call (.builtin "dict.__len__") [.ref d]) Q E s := by
  obtain ⟨es, ep, r, _, e⟩ := g.raw
  refine call_len_raw hd r ?_
  rw [e]
  exact h
end
end
end DS
/-! DS3: dicts as data. -/
namespace DS
open PySem PySem.Spec PyProof.Rows L2
def dget : List (D × D) → NestedKey → Option D
  | [], _ => none
  | p :: r, k => if D.key p.1 = some k then some p.2 else dget r k
def dput : List (D × D) → D → NestedKey → D → List (D × D)
  | [], kd, _, v => [(kd, v)]
  | p :: r, kd, k, v => if D.key p.1 = some k then (p.1, v) :: r else p :: dput r kd k v
def ddel : List (D × D) → NestedKey → List (D × D)
  | [], _ => []
  | p :: r, k => if D.key p.1 = some k then r else p :: ddel r k
section
variable {C : Kx} {Z : Addr → Prop} {H : Hp} {P : Program} {h : Heap}
mutual
/-- a key as data is a key of the model -/
theorem RD.nested (hok : HOk P C.w H h) : ∀ {d : D} {v : V} {k : NestedKey} {u : Value}, RD C Z H d v → D.key d = some k → RelV v u → NestedIs h k u
  | .non, v, k, u, r, e, q => by
    simp only [RD] at r; subst r
    simp only [D.key, Option.some.injEq] at e; subst e
    cases q; exact .none
  | .bl b, v, k, u, r, e, q => by
    simp only [RD] at r; subst r
    simp only [D.key, Option.some.injEq] at e; subst e
    cases q; exact .bool rfl
  | .int i, v, k, u, r, e, q => by
    simp only [RD] at r; subst r
    simp only [D.key, Option.some.injEq] at e; subst e
    obtain ⟨t, rfl⟩ := q; exact .int i t
  | .str x, v, k, u, r, e, q => by
    simp only [RD] at r; subst r
    simp only [D.key, Option.some.injEq] at e; subst e
    obtain ⟨t, rfl⟩ := q; exact .text x t
  | .tup xs, v, k, u, r, e, q => by
    simp only [RD] at r
    obtain ⟨a, vs, rfl, ha, r⟩ := r
    simp only [D.key, Option.map_eq_some_iff] at e
    obtain ⟨ks, e1, rfl⟩ := e
    cases q
    obtain ⟨_, its, rv, it⟩ := hok a _ ha
    obtain ⟨ob, h1, h2, n, h3⟩ := it
    exact .tup h1 h2 h3 (by simpa using RDs.nested hok r e1 rv)
  | .lst _, _, _, _, _, e, _ => by simp [D.key] at e
  | .scr _, _, _, _, _, e, _ => by simp [D.key] at e
  | .dct _, _, _, _, _, e, _ => by simp [D.key] at e
  | .ins _ _, _, _, _, _, e, _ => by simp [D.key] at e
  | .val _, _, _, _, _, e, _ => by simp [D.key] at e
theorem RDs.nested (hok : HOk P C.w H h) : ∀ {ds : List D} {vs : List V} {ks : List NestedKey} {us : List Value}, RDs C Z H ds vs → D.keys ds = some ks → Vals vs us → NestedAll h ks us
  | [], _, _, _, r, e, q => by
    simp only [RDs] at r; subst r
    simp only [D.keys, Option.some.injEq] at e; subst e
    cases q; exact .nil
  | d :: ds, _, _, _, r, e, q => by
    simp only [RDs] at r
    obtain ⟨v, vr, rfl, r1, r2⟩ := r
    simp only [D.keys] at e
    cases e1 : D.key d with
    | none => rw [e1] at e; cases e
    | some k =>
      cases e2 : D.keys ds with
      | none => rw [e1, e2] at e; cases e
      | some ks =>
        rw [e1, e2] at e
        cases e
        cases q with
        | cons q1 q2 => exact .cons (RD.nested hok r1 e1 q1) (RDs.nested hok r2 e2 q2)
end
variable (C Z H)
def Al : List (D × D) → List En → Prop
  | [], xs => xs = []
  | p :: r, xs => ∃ k kv vv v v' xr, xs = (k, kv, vv) :: xr ∧ D.key p.1 = some k ∧ k.depth ≤ 8 ∧ RelV v kv ∧ RelV v' vv ∧ RD C Z H p.1 v ∧ RD C Z H p.2 v' ∧ Al r xr
variable {C Z H}
theorem Al.of : ∀ {kvs : List (D × D)} {es : List DictEntry}, RDk C Z H kvs es → ∃ xs, es = xs.map (En.ent C.w) ∧ Al C Z H kvs xs
  | [], _, h => by simp only [RDk] at h; exact ⟨[], h, rfl⟩
  | p :: r, _, h => by
    simp only [RDk] at h
    obtain ⟨e, er, k, kv, vv, rfl, h1, h2, h3, h4, h5, h6, h7, h8⟩ := h
    obtain ⟨xs, q1, q2⟩ := Al.of h8
    refine ⟨(k, e.key, e.val) :: xs, ?_, ?_⟩
    · rw [List.map_cons, ← q1]
      obtain ⟨a, b, c⟩ := e
      dsimp only at h3
      subst h3
      rfl
    · simp only [Al]
      exact ⟨k, _, _, kv, vv, xs, rfl, h1, h2, h4, h5, h6, h7, q2⟩
theorem Al.back : ∀ {kvs : List (D × D)} {xs : List En}, Al C Z H kvs xs → RDk C Z H kvs (xs.map (En.ent C.w))
  | [], _, h => by simp only [Al] at h; subst h; simp only [RDk, List.map_nil]
  | p :: r, _, h => by
    simp only [Al] at h
    obtain ⟨k, kv, vv, v, v', xr, rfl, h1, h2, h3, h4, h5, h6, h7⟩ := h
    simp only [RDk, List.map_cons]
    exact ⟨_, _, k, v, v', rfl, h1, h2, rfl, h3, h4, h5, h6, Al.back h7⟩
theorem Al.keep {Z' : Addr → Prop} {H' : Hp} (kp : Kp Z Z' H H') : ∀ {kvs : List (D × D)} {xs : List En}, Al C Z H kvs xs → Al C Z' H' kvs xs
  | [], _, h => h
  | p :: r, _, h => by
    simp only [Al] at h ⊢
    obtain ⟨k, kv, vv, v, v', xr, rfl, h1, h2, h3, h4, h5, h6, h7⟩ := h
    exact ⟨k, kv, vv, v, v', xr, rfl, h1, h2, h3, h4, h5.keep kp, h6.keep kp, Al.keep kp h7⟩
theorem Al.mem : ∀ {kvs : List (D × D)} {xs : List En}, Al C Z H kvs xs → ∀ x ∈ xs, ∃ p ∈ kvs, D.key p.1 = some x.1
  | [], _, h, x, hx => by simp only [Al] at h; subst h; cases hx
  | p :: r, _, h, x, hx => by
    simp only [Al] at h
    obtain ⟨k, kv, vv, v, v', xr, rfl, h1, h2, h3, h4, h5, h6, h7⟩ := h
    rcases List.mem_cons.mp hx with rfl | hx
    · exact ⟨p, List.mem_cons_self, h1⟩
    · obtain ⟨q, hq, e⟩ := Al.mem h7 x hx
      exact ⟨q, List.mem_cons_of_mem _ hq, e⟩
theorem Al.nd : ∀ {kvs : List (D × D)} {xs : List En}, Al C Z H kvs xs → DNodup kvs → (xs.map (·.1)).Nodup
  | [], _, h, _ => by simp only [Al] at h; subst h; exact List.nodup_nil
  | p :: r, _, h, n => by
    simp only [Al] at h
    obtain ⟨k, kv, vv, v, v', xr, rfl, h1, h2, h3, h4, h5, h6, h7⟩ := h
    rw [List.map_cons, List.nodup_cons]
    refine ⟨fun hm => ?_, Al.nd h7 n.2⟩
    obtain ⟨x, hx, e⟩ := List.mem_map.mp hm
    obtain ⟨q, hq, e2⟩ := Al.mem h7 x hx
    exact n.1 q hq (by rw [e2, h1]; exact congrArg some e)
theorem Al.len : ∀ {kvs : List (D × D)} {xs : List En}, Al C Z H kvs xs → xs.length = kvs.length
  | [], _, h => by simp only [Al] at h; subst h; rfl
  | p :: r, _, h => by
    simp only [Al] at h
    obtain ⟨k, kv, vv, v, v', xr, rfl, h1, h2, h3, h4, h5, h6, h7⟩ := h
    simp only [List.length_cons, Al.len h7]
theorem Al.nested (hok : HOk P C.w H h) : ∀ {kvs : List (D × D)} {xs : List En}, Al C Z H kvs xs → ∀ x ∈ xs, NestedIs h x.1 x.2.1 ∧ x.1.depth ≤ 8
  | [], _, h, x, hx => by simp only [Al] at h; subst h; cases hx
  | p :: r, _, h, x, hx => by
    simp only [Al] at h
    obtain ⟨k, kv, vv, v, v', xr, rfl, h1, h2, h3, h4, h5, h6, h7⟩ := h
    rcases List.mem_cons.mp hx with rfl | hx
    · exact ⟨h5.nested hok h1 h3, h2⟩
    · exact Al.nested hok h7 x hx
theorem gat_cons {x : En} {xs : List En} {k : NestedKey} : gat (x :: xs) k = if x.1 = k then some x.2.2 else gat xs k := by
  unfold gat
  rw [List.find?_cons]
  by_cases h : x.1 = k <;> simp [h]
theorem Al.get {k : NestedKey} : ∀ {kvs : List (D × D)} {xs : List En}, Al C Z H kvs xs → (dget kvs k = none → gat xs k = none) ∧ ∀ d, dget kvs k = some d → ∃ vv v, gat xs k = some vv ∧ RelV v vv ∧ RD C Z H d v
  | [], _, h => by simp only [Al] at h; subst h; exact ⟨fun _ => rfl, fun d e => by cases e⟩
  | p :: r, _, h => by
    simp only [Al] at h
    obtain ⟨k', kv, vv, v, v', xr, rfl, h1, h2, h3, h4, h5, h6, h7⟩ := h
    rw [gat_cons]
    simp only [dget, h1]
    by_cases e : k' = k
    · subst e
      simp only [if_true]
      exact ⟨fun q => (nomatch q), fun d q => by cases q; exact ⟨vv, v', rfl, h4, h6⟩⟩
    · have e2 : ¬ (some k' = some k) := fun q => e (Option.some.inj q)
      rw [if_neg e2, if_neg e]
      exact Al.get h7
def gputR : List En → NestedKey → Value → Value → List En
  | [], k, kv, v => [(k, kv, v)]
  | x :: r, k, kv, v => if x.1 = k then (x.1, x.2.1, v) :: r else x :: gputR r k kv v
theorem gput_eq {k : NestedKey} {kv v : Value} : ∀ {xs : List En}, (xs.map (·.1)).Nodup → gput xs k kv v = gputR xs k kv v
  | [], _ => by simp [gput, gputR]
  | x :: r, n => by
    rw [List.map_cons, List.nodup_cons] at n
    have ih := gput_eq (k := k) (kv := kv) (v := v) n.2
    unfold gput at ih ⊢
    simp only [gputR]
    by_cases e : x.1 = k
    · subst e
      rw [if_pos (by simp), if_pos rfl, List.map_cons, if_pos rfl]
      congr 1
      refine (List.map_congr_left fun y hy => ?_).trans (List.map_id r)
      have ne : ¬ y.1 = x.1 := fun q => n.1 (List.mem_map.mpr ⟨y, hy, q⟩)
      rw [if_neg ne]
      rfl
    · rw [if_neg e, ← ih]
      by_cases hm : k ∈ r.map (·.1)
      · rw [if_pos (by rw [List.map_cons]; exact List.mem_cons_of_mem _ hm), if_pos hm, List.map_cons, if_neg e]
      · rw [if_neg (by rw [List.map_cons, List.mem_cons]; exact fun q => q.elim (fun z => e z.symm) hm), if_neg hm]
        rfl
theorem Al.put {kd vd : D} {k : NestedKey} {vk vv : V} {kv v : Value} (ek : D.key kd = some k) (h8 : k.depth ≤ 8) (r1 : RelV vk kv) (r2 : RD C Z H kd vk) (r3 : RelV vv v) (r4 : RD C Z H vd vv) : ∀ {kvs : List (D × D)} {xs : List En}, Al C Z H kvs xs → Al C Z H (dput kvs kd k vd) (gputR xs k kv v)
  | [], _, h => by
    simp only [Al] at h; subst h
    simp only [dput, gputR, Al]
    exact ⟨k, kv, v, vk, vv, [], rfl, ek, h8, r1, r3, r2, r4, rfl⟩
  | p :: r, _, h => by
    simp only [Al] at h
    obtain ⟨k', kv', vv', u, u', xr, rfl, h1, h2, h3, h4, h5, h6, h7⟩ := h
    simp only [dput, gputR, h1]
    by_cases e : k' = k
    · subst e
      rw [if_pos rfl, if_pos rfl]
      simp only [Al]
      exact ⟨k', kv', v, u, vv, xr, rfl, h1, h2, h3, r3, h5, r4, h7⟩
    · have e2 : ¬ (some k' = some k) := fun q => e (Option.some.inj q)
      rw [if_neg e2, if_neg e]
      simp only [Al]
      exact ⟨k', kv', vv', u, u', _, rfl, h1, h2, h3, h4, h5, h6, Al.put ek h8 r1 r2 r3 r4 h7⟩
theorem dput_mem {kd v : D} {k : NestedKey} (ek : D.key kd = some k) : ∀ {kvs : List (D × D)} {q : D × D}, q ∈ dput kvs kd k v → D.key q.1 = some k ∨ ∃ p ∈ kvs, D.key p.1 = D.key q.1
  | [], q, h => by simp only [dput, List.mem_singleton] at h; subst h; exact .inl ek
  | p :: r, q, h => by
    simp only [dput] at h
    split at h
    · rename_i e
      rcases List.mem_cons.mp h with rfl | h
      · exact .inl e
      · exact .inr ⟨q, List.mem_cons_of_mem _ h, rfl⟩
    · rcases List.mem_cons.mp h with rfl | h
      · exact .inr ⟨q, List.mem_cons_self, rfl⟩
      · rcases dput_mem ek h with h | ⟨p', hp, e⟩
        · exact .inl h
        · exact .inr ⟨p', List.mem_cons_of_mem _ hp, e⟩
theorem dput_nd {kd v : D} {k : NestedKey} (ek : D.key kd = some k) : ∀ {kvs : List (D × D)}, DNodup kvs → DNodup (dput kvs kd k v)
  | [], _ => ⟨fun _ h => (nomatch h), trivial⟩
  | p :: r, n => by
    simp only [dput]
    split
    · rename_i e
      exact ⟨fun q hq => n.1 q hq, n.2⟩
    · rename_i e
      refine ⟨fun q hq => ?_, dput_nd ek n.2⟩
      rcases dput_mem ek hq with h | ⟨p', hp, e2⟩
      · rw [h]; exact fun z => e z.symm
      · rw [← e2]; exact n.1 p' hp
theorem dput_len {kd v : D} {k : NestedKey} : ∀ {kvs : List (D × D)}, (dput kvs kd k v).length ≤ kvs.length + 1
  | [] => Nat.le_refl _
  | p :: r => by
    simp only [dput]
    split
    · exact Nat.le_succ _
    · exact Nat.succ_le_succ dput_len
/-- a dict stands at a -/
def DicAt (C : Kx) (Z : Addr → Prop) (H : Hp) (a : Addr) (kvs : List (D × D)) : Prop :=
  ∃ o es ep, H a = some (pin a o) ∧ (a == sysModules) = false ∧ o.ExactDict ∧ o.data = .dict es ep ∧ kvs.length ≤ sizeLine ∧ DNodup kvs ∧ RDk C Z H kvs es.toList
theorem RD.dic {kvs : List (D × D)} {v : V} (r : RD C Z H (.dct kvs) v) : ∃ a, v = .ref a ∧ DicAt C Z H a kvs := by
  simp only [RD] at r
  obtain ⟨a, o, es, ep, e, z, x⟩ := r
  exact ⟨a, e, o, es, ep, x⟩
theorem RO.dic {kvs : List (D × D)} {v : V} {F : List Addr} (r : RO C Z H (.fd kvs) v F) : ∃ a, F = [a] ∧ v = .ref a ∧ DicAt C Z H a kvs := by
  simp only [RO] at r
  obtain ⟨a, o, es, ep, e, e2, x⟩ := r
  exact ⟨a, e, e2, o, es, ep, x⟩
theorem DicAt.ro {kvs : List (D × D)} {a : Addr} (h : DicAt C Z H a kvs) : RO C Z H (.fd kvs) (.ref a) [a] := by
  obtain ⟨o, es, ep, x⟩ := h
  simp only [RO]
  exact ⟨a, o, es, ep, rfl, rfl, x⟩
theorem DicAt.gd {kvs : List (D × D)} {a : Addr} (hok : HOk P C.w H h) (x : DicAt C Z H a kvs) : ∃ o xs, H a = some (pin a o) ∧ GD C.w h a o xs ∧ Al C Z H kvs xs ∧ (a == sysModules) = false ∧ kvs.length ≤ sizeLine ∧ DNodup kvs := by
  obtain ⟨o, es, ep, e1, e2, e3, e4, e5, e6, e7⟩ := x
  obtain ⟨xs, q1, q2⟩ := Al.of e7
  exact ⟨o, xs, e1, ⟨(hok a _ e1).1, e3, ⟨es, ep, e4, q1⟩, q2.nested hok, q2.nd e6⟩, q2, e2, e5, e6⟩
/-- .. and back from the entries -/
theorem DicAt.mk {kvs : List (D × D)} {xs : List En} {a : Addr} {o : Obj} {h' : Heap} {w : World} (hw : C.w = w) (hH : H a = some (pin a o)) (hs : (a == sysModules) = false) (g : GD w h' a o xs) (al : Al C Z H kvs xs) (hl : kvs.length ≤ sizeLine) (nd : DNodup kvs) : DicAt C Z H a kvs := by
  subst hw
  obtain ⟨es, ep, e1, e2⟩ := g.dat
  exact ⟨o, es, ep, hH, hs, g.ex, e1, hl, nd, by rw [e2]; exact al.back⟩
end
/-- a dict's entries, as data -/
theorem RDk.get {C : Kx} {Z : Addr → Prop} {H : Hp} : ∀ {kvs : List (D × D)} {es : List DictEntry}, RDk C Z H kvs es → es.length = kvs.length ∧ ∀ (i : Nat) (en : DictEntry), es[i]? = some en → ∃ k d vk vv, kvs[i]? = some (k, d) ∧ RelV vk en.key ∧ RD C Z H k vk ∧ RelV vv en.val ∧ RD C Z H d vv
  | [], es, h => by
    simp only [RDk] at h
    subst h
    exact ⟨rfl, fun i en h => by simp at h⟩
  | q :: r, es, h => by
    simp only [RDk] at h
    obtain ⟨e, er, k, kv, vv, rfl, _, _, _, r1, r2, r3, r4, h⟩ := h
    obtain ⟨hl, h⟩ := RDk.get h
    refine ⟨by simp [hl], fun i en hi => ?_⟩
    cases i with
    | zero =>
      simp only [List.getElem?_cons_zero, Option.some.injEq] at hi
      subst hi
      exact ⟨q.1, q.2, kv, vv, rfl, r1, r3, r2, r4⟩
    | succ i => exact h i en (by simpa using hi)
end DS
/-! DS4: calls over the world; the small language and what it means. -/
namespace DS
open PySem PySem.Spec PyProof.Rows L2
/-! ### what a call leaves -/
structure After (C : Kx) (Z : Addr → Prop) (H : Hp) (F : List Addr) (Z' : Addr → Prop) (H' : Hp) (os : List O) (vs : List V) : Prop where
  z : ∀ a, Z a → Z' a
  z' : ∀ a, Z' a → Z a ∨ H a = none ∨ a ∈ F
  fr : ∀ a o, H a = some o → a ∉ F → H' a = some o
  zs : ∀ a, Z' a → ∃ o, H' a = some o
  ro : ∃ G, ROs C Z' H' os vs G ∧ G.Nodup ∧ ∀ a ∈ G, ¬ Z' a ∧ (H a = none ∨ a ∈ F)
section
variable {C : Kx} {B : Bs} {Z Z' : Addr → Prop} {H H' : Hp} {e : Ev} {σ : Sl} {T : Tm}
def zipT : List O → List V → Tm
  | o :: os, v :: vs => (o, v) :: zipT os vs
  | _, _ => []
theorem temps_app : ∀ {T1 T2 : Tm} {G : List Addr}, Temps C Z H (T1 ++ T2) G ↔ ∃ G1 G2, G = G1 ++ G2 ∧ Temps C Z H T1 G1 ∧ Temps C Z H T2 G2
  | [], T2, G => by
    simp only [List.nil_append, Temps]
    exact ⟨fun h => ⟨[], G, rfl, rfl, h⟩, fun ⟨G1, G2, e, e1, h⟩ => by subst e1; rw [e]; exact h⟩
  | p :: T1, T2, G => by
    simp only [List.cons_append, Temps]
    constructor
    · rintro ⟨G1, G2, rfl, h1, h2⟩
      obtain ⟨G3, G4, rfl, h3, h4⟩ := temps_app.mp h2
      exact ⟨G1 ++ G3, G4, by rw [List.append_assoc], ⟨G1, G3, rfl, h1, h3⟩, h4⟩
    · rintro ⟨G1, G2, rfl, ⟨G3, G4, rfl, h3, h4⟩, h2⟩
      exact ⟨G3, G4 ++ G2, by rw [List.append_assoc], h3, temps_app.mpr ⟨G4, G2, rfl, h4, h2⟩⟩
theorem ros_temps : ∀ {os : List O} {vs : List V} {G : List Addr}, ROs C Z H os vs G → Temps C Z H (zipT os vs) G ∧ os.length = vs.length
  | [], _, _, h => by simp only [ROs] at h; obtain ⟨rfl, rfl⟩ := h; exact ⟨rfl, rfl⟩
  | o :: os, _, _, h => by
    simp only [ROs] at h
    obtain ⟨v, r, F1, F2, rfl, rfl, h1, h2⟩ := h
    obtain ⟨h3, h4⟩ := ros_temps h2
    exact ⟨by simp only [zipT, Temps]; exact ⟨F1, F2, rfl, h1, h3⟩, by simp [h4]⟩
theorem temps_ros : ∀ {T : Tm} {G : List Addr}, Temps C Z H T G → ROs C Z H (T.map (·.1)) (T.map (·.2)) G
  | [], _, h => by simp only [Temps] at h; subst h; simp only [List.map_nil, ROs]; exact ⟨trivial, trivial⟩
  | p :: T, _, h => by
    simp only [Temps] at h
    obtain ⟨G1, G2, rfl, h1, h2⟩ := h
    simp only [List.map_cons, ROs]
    exact ⟨p.2, _, G1, G2, rfl, rfl, h1, temps_ros h2⟩
/-- the world behind a call that was handed the things ios -/
theorem Wd.call {ios : Tm} (W : Wd C B Z H σ e (ios ++ T)) : ∃ F, ROs C Z H (ios.map (·.1)) (ios.map (·.2)) F ∧ F.Nodup ∧ (∀ a ∈ F, ¬ Z a) ∧
    ∀ Z' H' os vs, After C Z H F Z' H' os vs → Wd C B Z' H' σ e (zipT os vs ++ T) := by
  obtain ⟨F0, G, h1, h2, h3, h4⟩ := W.ex
  obtain ⟨G1, G2, rfl, h5, h6⟩ := temps_app.mp h2
  refine ⟨G1, temps_ros h5, ?_, fun a ha => (h4 a (List.mem_append_right _ (List.mem_append_left _ ha))).1, fun Z' H' os vs A => ?_⟩
  · have := (List.nodup_append.mp h3).2.1
    exact (List.nodup_append.mp this).1
  · have ap : ∀ b ∈ F0 ++ G2, b ∉ G1 := by
      intro b hb hb1
      have n1 := List.nodup_append.mp h3
      have n2 := List.nodup_append.mp n1.2.1
      rcases List.mem_append.mp hb with hb | hb
      · exact n1.2.2 b hb b (List.mem_append_left _ hb1) rfl
      · exact n2.2.2 b hb1 b hb rfl
    have th : ∀ b ∈ F0 ++ G2, ∃ o, H b = some o := by
      intro b hb
      rcases List.mem_append.mp hb with hb | hb
      · obtain ⟨u, q, _⟩ := h1.own b hb; exact ⟨u, q⟩
      · obtain ⟨u, q, _⟩ := h6.own b hb; exact ⟨u, q⟩
    have k : Kp Z Z' H H' := by
      refine ⟨A.z, fun a z => ?_, fun a xs q => ?_⟩
      · obtain ⟨o, q⟩ := W.zs a z
        rw [q]
        refine A.fr a o q fun hm => ?_
        exact (h4 a (List.mem_append_right _ (List.mem_append_left _ hm))).1 z
      · refine A.fr a _ q fun hm => ?_
        obtain ⟨u, q2, n⟩ := h5.own a hm
        rw [q2] at q
        cases q
        exact n xs rfl
    have same : ∀ b ∈ F0 ++ G2, H' b = H b := by
      intro b hb
      obtain ⟨o, q⟩ := th b hb
      rw [q]
      exact A.fr b o q (ap b hb)
    obtain ⟨G', r1, r2, r3⟩ := A.ro
    refine ⟨⟨F0, G' ++ G2, h1.keep k (fun b hb => same b (List.mem_append_left _ hb)), temps_app.mpr ⟨G', G2, rfl, (ros_temps r1).1, h6.keep k (fun b hb => same b (List.mem_append_right _ hb))⟩, ?_, fun a ha => ?_⟩, A.zs, fun a z => A.z a (W.z0 a z), fun a z => ?_, fun a o q hf => ?_, W.io⟩
    · have n0 : (F0 ++ G2).Nodup := h3.sublist (List.Sublist.append_left (List.sublist_append_right _ _) _)
      have n1 := List.nodup_append.mp n0
      have dis : ∀ b ∈ F0 ++ G2, b ∉ G' := by
        intro b hb hg
        rcases (r3 b hg).2 with z | z
        · obtain ⟨o, q⟩ := th b hb
          rw [z] at q; cases q
        · exact ap b hb z
      refine List.nodup_append.mpr ⟨n1.1, List.nodup_append.mpr ⟨r2, n1.2.1, fun a ha b hb e => ?_⟩, fun a ha b hb e => ?_⟩
      · subst e
        exact dis a (List.mem_append_right _ hb) ha
      · subst e
        rcases List.mem_append.mp hb with hb | hb
        · exact dis a (List.mem_append_left _ ha) hb
        · exact n1.2.2 a ha a hb rfl
    · have old : ∀ a ∈ F0 ++ G2, ¬ Z' a ∧ B.mine a := by
        intro a ha
        have q4 := h4 a (by
          rcases List.mem_append.mp ha with h | h
          · exact List.mem_append_left _ h
          · exact List.mem_append_right _ (List.mem_append_right _ h))
        refine ⟨fun z => ?_, q4.2⟩
        rcases A.z' a z with z | z | z
        · exact q4.1 z
        · obtain ⟨o, q⟩ := th a ha
          rw [z] at q; cases q
        · exact ap a ha z
      rcases List.mem_append.mp ha with h | h
      · exact old a (List.mem_append_left _ h)
      · rcases List.mem_append.mp h with h | h
        · refine ⟨(r3 a h).1, ?_⟩
          rcases (r3 a h).2 with z | z
          · cases q : B.H0 a with
            | none => exact .inl q
            | some x =>
              by_cases hf : a ∈ B.F0
              · exact .inr hf
              · have := W.fr a x q hf
                rw [z] at this
                cases this
          · exact (h4 a (List.mem_append_right _ (List.mem_append_left _ z))).2
        · exact old a (List.mem_append_right _ h)
    · rcases A.z' a z with z | z | z
      · exact W.z1 a z
      · right
        cases q : B.H0 a with
        | none => exact .inl q
        | some x =>
          by_cases hf : a ∈ B.F0
          · exact .inr hf
          · have := W.fr a x q hf
            rw [z] at this
            cases this
      · exact .inr (h4 a (List.mem_append_right _ (List.mem_append_left _ z))).2
    · refine A.fr a o (W.fr a o q hf) fun hm => ?_
      rcases (h4 a (List.mem_append_right _ (List.mem_append_left _ hm))).2 with m | m
      · rw [m] at q; cases q
      · exact hf m
end
/-! ### the language -/
inductive Op where
  | add | sub | mul | fdiv | mod | pow | neg
  | eq | ne | lt | le | gt | ge | isN | notN | inn | nin
  | idx | rev
  | tup | lst | dct
  | len | sum | max2 | min2 | maxl | minl | abs | listOf | tupleOf | dictOf | sorted | intOf | strOf | repr | allOf | anyOf
  | keysL | valsL | itemsL
  | isi (T : List String)
  | join | upper | get1 | get2 | index | count | split | partition
  deriving DecidableEq
inductive Src where
  | seq | rng | enm | zip | itm | vals | rev
  deriving DecidableEq
inductive Tg where
  | n (i : Nat) | t (ts : List Tg)
inductive E where
  | var (i : Nat) | mov (i : Nat) | con (d : D) | glb (g : Nat) | io (i : Nat)
  | op (o : Op) (es : List E)
  | slc (a : E) (lo hi : List E)
  | chain (o1 o2 : Op) (a b c : E)
  | ife (t a b : E) | andE (a b : E) | orE (a b : E) | notE (a : E)
  | call (f : Nat) (es : List E)
  /-- a method of a built-in type -/
  | mth (o : Op) (a : E) (es : List E)
  | comp (k : Src) (es : List E) (t : Tg) (c : List E) (x : E) (sl : List Nat)
inductive S where
  | exp (e : E) | set (i : Nat) (e : E) | tgt (t : Tg) (e : E) | par (is : List Nat) (es : List E)
  | app (i : Nat) (e : E) | sti (i : Nat) (k x : E) | aug (i : Nat) (o : Op) (x : E)
  | ret (e : E) | retN | ifs (c : E) (a b : List S)
  | fo (k : Src) (es : List E) (t : Tg) (b : List S) | wh (c : E) (b : List S)
  | brk | cnt | pas
/-- an exception: its class, its fields -/
structure Xp where
  c : Nat
  fs : List (Str × D)
/-- what a def promises: the arguments; what is wanted of the value and of the things it may change; of an exception -/
abbrev FS := List O → (O → List O → Prop) → (Xp → List O → Prop) → Prop
def numD : D → Option Int
  | .int i => some i
  | .bl b => some (if b = true then 1 else 0)
  | _ => none
mutual
/-- == -/
def deq : D → D → Bool
  | .non, y => match y with | .non => true | _ => false
  | .str x, y => match y with | .str z => decide (x = z) | _ => false
  | .int i, y => match numD y with | some j => decide (i = j) | none => false
  | .bl b, y => match numD y with | some j => decide ((if b = true then 1 else 0) = j) | none => false
  | .lst xs, y => match y with | .lst ys => deqs xs ys | _ => false
  | .tup xs, y => match y with | .tup ys => deqs xs ys | _ => false
  | .dct xs, y => match y with | .dct ys => decide (xs.length = ys.length) && dsub xs ys | _ => false
  | .scr _, _ => false
  | .ins _ _, _ => false
  | .val _, _ => false
def deqs : List D → List D → Bool
  | [], ys => ys.isEmpty
  | x :: xs, ys => match ys with | [] => false | y :: yr => deq x y && deqs xs yr
def dsub : List (D × D) → List (D × D) → Bool
  | [], _ => true
  | p :: r, ys => (match D.key p.1 with
    | none => false
    | some k => match dget ys k with
      | none => false
      | some v => deq p.2 v) && dsub r ys
end
mutual
/-- what == is known of -/
def comp : D → D → Bool
  | .non, y | .bl _, y | .int _, y | .str _, y => match y with | .dct _ | .scr _ | .ins _ _ | .val _ => false | _ => true
  | .lst xs, y => match y with | .lst ys => comps xs ys | .dct _ | .scr _ | .ins _ _ | .val _ => false | _ => true
  | .tup xs, y => match y with | .tup ys => comps xs ys | .dct _ | .scr _ | .ins _ _ | .val _ => false | _ => true
  | .dct xs, y => match y with | .dct ys => compk xs ys | _ => false
  | .scr _, _ => false
  | .ins _ _, _ => false
  | .val _, _ => false
def comps : List D → List D → Bool
  | [], _ => true
  | x :: xs, ys => match ys with | [] => true | y :: yr => comp x y && comps xs yr
def compk : List (D × D) → List (D × D) → Bool
  | [], _ => true
  | p :: r, ys => (match D.key p.1 with
    | none => true
    | some k => match dget ys k with
      | none => true
      | some v => comp p.2 v) && compk r ys
end
mutual
def depD : D → Nat
  | .non | .bl _ | .int _ | .str _ | .val _ => 0
  | .lst xs => depDs xs + 1
  | .tup xs => depDs xs + 1
  | .scr xs => depDs xs + 1
  | .dct kvs => depDk kvs + 1
  | .ins _ _ => 0
def depDs : List D → Nat
  | [] => 0
  | x :: xs => max (depD x) (depDs xs)
def depDk : List (D × D) → Nat
  | [] => 0
  | p :: r => max (depD p.2) (depDk r)
end
def cmpOk (a b : D) : Prop := comp a b = true ∧ depD a ≤ 8
end DS
/-! DS5: what the small language means. -/
namespace DS
open PySem PySem.Spec PyProof.Rows L2
def tyNm : D → String
  | .non => "NoneType" | .bl _ => "bool" | .int _ => "int" | .str _ => "str" | .lst _ => "list" | .scr _ => "list" | .tup _ => "tuple" | .dct _ => "dict" | .ins _ _ => "" | .val _ => ""
def isTy (d : D) (T : String) : Bool := tyNm d == T || (T == "int" && tyNm d == "bool")
def cutL {α : Type} (xs : List α) (lo hi : Option Int) : List α := (xs.drop (HT.sIx xs.length 0 lo)).take (HT.sIx xs.length xs.length hi - HT.sIx xs.length 0 lo)
def strsOf : List D → Option (List Str)
  | [] => some []
  | .str x :: r => (strsOf r).map (x :: ·)
  | _ :: _ => none
def intsOf : List D → Option (List Int)
  | [] => some []
  | .int x :: r => (intsOf r).map (x :: ·)
  | _ :: _ => none
/-- {k: v, ..}: the arguments in turns -/
def dispW : List D → List (D × D) → (List (D × D) → Prop) → Prop
  | [], acc, K => K acc
  | [_], _, _ => False
  | k :: v :: r, acc, K => ∃ kk, D.key k = some kk ∧ kk.depth ≤ 8 ∧ dispW r (dput acc k kk v) K
/-- a key that is an int or a text -/
def plainK : D → Option NestedKey
  | .int i => some (.num i)
  | .str x => some (.text x)
  | _ => none
/-- dict([(k, v), ..]) -/
def pairsW : List D → List (D × D) → (List (D × D) → Prop) → Prop
  | [], acc, K => K acc
  | .tup [k, v] :: r, acc, K => ∃ kk, plainK k = some kk ∧ pairsW r (dput acc k kk v) K
  | _ :: _, _, _ => False
def boolsOf : List D → Option (List Bool)
  | [] => some []
  | .bl x :: r => (boolsOf r).map (x :: ·)
  | _ :: _ => none
def leafKeys (kvs : List (D × D)) : Bool := kvs.all fun p => (plainK p.1).isSome
def addW : List D → (O → Prop) → Prop
  | [.int a, .int b], K => K (.pu (.int (a + b)))
  | [.str a, .str b], K => a.length + b.length ≤ sizeLine ∧ K (.pu (.str (a ++ b)))
  | [.lst a, .lst b], K => a.length + b.length ≤ sizeLine ∧ K (.fl (a ++ b))
  | [.tup a, .tup b], K => a.length + b.length ≤ sizeLine ∧ K (.pu (.tup (a ++ b)))
  | _, _ => False
def subW : List D → (O → Prop) → Prop
  | [.int a, .int b], K => K (.pu (.int (a - b)))
  | _, _ => False
def mulW : List D → (O → Prop) → Prop
  | [.int a, .int b], K => CMulW a b ∧ K (.pu (.int (a * b)))
  | [.lst a, .int k], K => (-(2 ^ 63) ≤ k ∧ k < 2 ^ 63 ∧ a.length * k.toNat ≤ sizeLine) ∧ K (.fl (List.replicate k.toNat a).flatten)
  | _, _ => False
def fdivW : List D → (O → Prop) → Prop
  | [.int a, .int b], K => CDivW a b ∧ K (.pu (.int (a / b)))
  | _, _ => False
def modW : List D → (O → Prop) → Prop
  | [.int a, .int b], K => 0 < b ∧ K (.pu (.int (a % b)))
  | _, _ => False
def powW : List D → (O → Prop) → Prop
  | [.int a, .int b], K => (0 ≤ b ∧ (Builtin.Int.intBits a : Int) * b ≤ 2 ^ 27) ∧ K (.pu (.int (a ^ b.toNat)))
  | _, _ => False
def negW : List D → (O → Prop) → Prop
  | [.int a], K => K (.pu (.int (-a)))
  | _, _ => False
def cmpIW (f : Int → Int → Bool) (g : Str → Str → Bool) : List D → (O → Prop) → Prop
  | [.int a, .int b], K => K (.pu (.bl (f a b)))
  | [.str a, .str b], K => K (.pu (.bl (g a b)))
  | _, _ => False
def eqW (b : Bool) : List D → (O → Prop) → Prop
  | [x, y], K => cmpOk x y ∧ K (.pu (.bl (deq x y == b)))
  | _, _ => False
def isNon : D → Bool
  | .non => true
  | _ => false
def noVal : D → Bool
  | .val _ => false
  | _ => true
def isNW (b : Bool) : List D → (O → Prop) → Prop
  | [x], K => noVal x = true ∧ K (.pu (.bl (isNon x == b)))
  | _, _ => False
def innW (b : Bool) : List D → (O → Prop) → Prop
  | [x, .lst ys], K => (∀ y ∈ ys, cmpOk y x) ∧ K (.pu (.bl (ys.any (fun y => deq y x) == b)))
  | [x, .tup ys], K => (∀ y ∈ ys, cmpOk y x) ∧ K (.pu (.bl (ys.any (fun y => deq y x) == b)))
  | [x, .dct kvs], K => ∃ k, D.key x = some k ∧ k.depth ≤ 8 ∧ K (.pu (.bl ((dget kvs k).isSome == b)))
  | [.str x, .str y], K => K (.pu (.bl ((!(Builtin.Str.occurrences y x 0 y.length 1).isEmpty) == b)))
  | _, _ => False
def idxW : List D → (O → Prop) → Prop
  | [.lst xs, .int i], K => ∃ d, atI xs i = some d ∧ K (.pu d)
  | [.tup xs, .int i], K => ∃ d, atI xs i = some d ∧ K (.pu d)
  | [.str z, .int i], K => z.length ≤ sizeLine ∧ ∃ c, atI z.cps.toList i = some c ∧ K (.pu (.str ⟨#[c]⟩))
  | [.dct kvs, x], K => ∃ k d, D.key x = some k ∧ k.depth ≤ 8 ∧ dget kvs k = some d ∧ K (.pu d)
  | _, _ => False
def slcW (d : D) (l u : Option Int) (K : O → Prop) : Prop := match d with
  | .lst xs => K (.fl (cutL xs l u))
  | .scr xs => K (.fl (cutL xs l u))
  | .tup xs => K (.pu (.tup (cutL xs l u)))
  | .str z => z.length ≤ sizeLine ∧ K (.pu (.str (cutS z l u)))
  | _ => False
def revW : List D → (O → Prop) → Prop
  | [.lst xs], K => K (.fl xs.reverse)
  | [.tup xs], K => K (.pu (.tup xs.reverse))
  | _, _ => False
def lenW : List D → (O → Prop) → Prop
  | [.lst xs], K => K (.pu (.int xs.length))
  | [.scr xs], K => K (.pu (.int xs.length))
  | [.tup xs], K => K (.pu (.int xs.length))
  | [.dct xs], K => K (.pu (.int xs.length))
  | [.str z], K => z.length ≤ sizeLine ∧ K (.pu (.int z.length))
  | _, _ => False
def listW : List D → (O → Prop) → Prop
  | [.lst xs], K => K (.fl xs)
  | [.tup xs], K => K (.fl xs)
  | [.dct kvs], K => K (.fl (kvs.map (·.1)))
  | _, _ => False
def tupleW : List D → (O → Prop) → Prop
  | [.lst xs], K => K (.pu (.tup xs))
  | [.tup xs], K => K (.pu (.tup xs))
  | _, _ => False
def dictW : List D → (O → Prop) → Prop
  | [.dct kvs], K => leafKeys kvs = true ∧ K (.fd kvs)
  | [.lst ps], K => pairsW ps [] fun kvs => K (.fd kvs)
  | _, _ => False
def max2W : List D → (O → Prop) → Prop
  | [.int i, .int j], K => K (.pu (.int (if j > i then j else i)))
  | _, _ => False
def min2W : List D → (O → Prop) → Prop
  | [.int i, .int j], K => K (.pu (.int (if j < i then j else i)))
  | _, _ => False
def absW : List D → (O → Prop) → Prop
  | [.int i], K => K (.pu (.int (if i < 0 then -i else i)))
  | _, _ => False
def plainTy : D → Bool
  | .val _ | .ins _ _ => false
  | _ => true
def isiW (T : List String) : List D → (O → Prop) → Prop
  | [d], K => plainTy d = true ∧ K (.pu (.bl (T.any (isTy d))))
  | _, _ => False
def sumW : List D → (O → Prop) → Prop
  | [.lst xs], K => ∃ ns, intsOf xs = some ns ∧ K (.pu (.int ns.sum))
  | _, _ => False
def joinW : List D → (O → Prop) → Prop
  | [.str a, .lst xs], K => ∃ ys, strsOf xs = some ys ∧ (ys.map (·.length)).sum + ys.length * a.length ≤ 16777216 ∧ K (.pu (.str (Txt.join a ys)))
  | _, _ => False
def upperW : List D → (O → Prop) → Prop
  | [.str a], K => a.length ≤ 5592405 ∧ K (.pu (.str (Txt.upper a)))
  | _, _ => False
def itemsW : List D → (O → Prop) → Prop
  | [.dct kvs], K => leafKeys kvs = true ∧ K (.fl (kvs.map fun p => .tup [p.1, p.2]))
  | _, _ => False
def valsW : List D → (O → Prop) → Prop
  | [.dct kvs], K => K (.fl (kvs.map (·.2)))
  | _, _ => False
def allW (f : List Bool → Bool) : List D → (O → Prop) → Prop
  | [.lst xs], K => ∃ bs, boolsOf xs = some bs ∧ K (.pu (.bl (f bs)))
  | _, _ => False
def strW : List D → (O → Prop) → Prop
  | [.int i], K => i.natAbs.log2 < 1920 ∧ K (.pu (.str (toString i)))
  | [.str a], K => K (.pu (.str a))
  | [.bl b], K => K (.pu (.str (if b = true then "True" else "False")))
  | _, _ => False
def intW : List D → (O → Prop) → Prop
  | [.int i], K => K (.pu (.int i))
  | [.bl b], K => K (.pu (.int (if b then 1 else 0)))
  | [.str a], K => ∃ n, PySem.intText? a = some n ∧ a.length ≤ 640 ∧ K (.pu (.int n))
  | _, _ => False
def maxlW (g : Int → Int → Prop) : List D → (O → Prop) → Prop
  | [.lst xs], K => ∃ ns, intsOf xs = some ns ∧ 0 < ns.length ∧ ∀ m, m ∈ ns → (∀ y, y ∈ ns → g y m) → K (.pu (.int m))
  | _, _ => False
def sortW : List D → (O → Prop) → Prop := fun xs K => match intsOf xs with
  | some ns => ∀ ns' : List Int, ns'.Perm ns → ns'.Pairwise (· ≤ ·) → K (.fl (ns'.map .int))
  | none => match strsOf xs with
    | some ys => ys.length < 64 ∧ ∀ ys' : List Str, ys'.Perm ys → sortedS ys' = true → K (.fl (ys'.map .str))
    | none => False
def sortedW : List D → (O → Prop) → Prop
  | [.lst xs], K => sortW xs K
  | _, _ => False
def get1W : List D → (O → Prop) → Prop
  | [.dct kvs, x], K => ∃ k, D.key x = some k ∧ k.depth ≤ 8 ∧ K (.pu ((dget kvs k).getD .non))
  | _, _ => False
def stay : D → Bool
  | .lst _ | .dct _ => false
  | _ => true
def get2W : List D → (O → Prop) → Prop
  | [.dct kvs, x, y], K => stay y = true ∧ ∃ k, D.key x = some k ∧ k.depth ≤ 8 ∧ K (.pu ((dget kvs k).getD y))
  | _, _ => False
def dctW : List D → (O → Prop) → Prop
  | [], K => K (.fd [])
  | ds, K => ds.length ≤ 30 ∧ dispW ds [] fun kvs => K (.fd kvs)
/-- what an operation gives -/
def opW : Op → List D → (O → Prop) → Prop
  | .add, ds, K => addW ds K
  | .sub, ds, K => subW ds K
  | .mul, ds, K => mulW ds K
  | .fdiv, ds, K => fdivW ds K
  | .mod, ds, K => modW ds K
  | .pow, ds, K => powW ds K
  | .neg, ds, K => negW ds K
  | .eq, ds, K => eqW true ds K
  | .ne, ds, K => eqW false ds K
  | .lt, ds, K => cmpIW (fun a b => decide (a < b)) (fun a b => decide (a.cps.toList < b.cps.toList)) ds K
  | .le, ds, K => cmpIW (fun a b => decide (a ≤ b)) (fun a b => !decide (b.cps.toList < a.cps.toList)) ds K
  | .gt, ds, K => cmpIW (fun a b => decide (b < a)) (fun a b => decide (b.cps.toList < a.cps.toList)) ds K
  | .ge, ds, K => cmpIW (fun a b => decide (b ≤ a)) (fun a b => !decide (a.cps.toList < b.cps.toList)) ds K
  | .isN, ds, K => isNW true ds K
  | .notN, ds, K => isNW false ds K
  | .inn, ds, K => innW true ds K
  | .nin, ds, K => innW false ds K
  | .idx, ds, K => idxW ds K
  | .rev, ds, K => revW ds K
  | .tup, ds, K => ds.length ≤ sizeLine ∧ K (.pu (.tup ds))
  | .lst, ds, K => ds.length ≤ sizeLine ∧ K (.fl ds)
  | .len, ds, K => lenW ds K
  | .listOf, ds, K => listW ds K
  | .tupleOf, ds, K => tupleW ds K
  | .dictOf, ds, K => dictW ds K
  | .max2, ds, K => max2W ds K
  | .min2, ds, K => min2W ds K
  | .abs, ds, K => absW ds K
  | .isi T, ds, K => isiW T ds K
  | .sum, ds, K => sumW ds K
  | .join, ds, K => joinW ds K
  | .upper, ds, K => upperW ds K
  | .itemsL, ds, K => itemsW ds K
  | .valsL, ds, K => valsW ds K
  | .allOf, ds, K => allW (fun bs => bs.all id) ds K
  | .anyOf, ds, K => allW (fun bs => bs.any id) ds K
  | .strOf, ds, K => strW ds K
  | .intOf, ds, K => intW ds K
  | .maxl, ds, K => maxlW (fun y m => y ≤ m) ds K
  | .minl, ds, K => maxlW (fun y m => m ≤ y) ds K
  | .sorted, ds, K => sortedW ds K
  | .get1, ds, K => get1W ds K
  | .get2, ds, K => get2W ds K
  | .dct, ds, K => dctW ds K
  | _, _, _ => False
/-- the type that a method is of -/
def mTy : Op → String
  | .join | .upper | .split | .partition => "str"
  | .get1 | .get2 => "dict"
  | .index | .count => "list"
  | _ => ""
/-! ### expressions -/
abbrev Gam := Nat → FS
def truD : D → Option Bool
  | .non => some false
  | .bl b => some b
  | .int i => some (i != 0)
  | .str z => if z.length ≤ sizeLine then some (z.length != 0) else none
  | .lst xs => some (!xs.isEmpty)
  | .scr xs => some (!xs.isEmpty)
  | .tup xs => some (!xs.isEmpty)
  | .dct xs => some (!xs.isEmpty)
  | _ => none
/-- an argument: a thing, or a name whose thing may be changed -/
inductive Av where
  | v (o : O) | io (i : Nat)
def avArgs : List Av → Ev → Option (List O)
  | [], _ => some []
  | .v o :: r, e => (avArgs r e).map (.pu o.fz :: ·)
  | .io i :: r, e => match e[i]? with
    | some (some o) => (avArgs r e).map (o :: ·)
    | _ => none
def avIos : List Av → List Nat
  | [] => []
  | .v _ :: r => avIos r
  | .io i :: r => i :: avIos r
def putOs : List Nat → List O → Ev → Ev
  | i :: is, o :: os, e => putOs is os (e.set i (some o))
  | _, _, e => e
mutual
def bindT : Tg → D → Ev → (Ev → Prop) → Prop
  | .n i, d, e, K => K (e.set i (some (.pu d)))
  | .t ts, d, e, K => ∃ ds, d = .tup ds ∧ bindTs ts ds e K
def bindTs : List Tg → List D → Ev → (Ev → Prop) → Prop
  | [], ds, e, K => ds = [] ∧ K e
  | t :: ts, ds, e, K => ∃ d r, ds = d :: r ∧ bindT t d e fun e1 => bindTs ts r e1 K
end
def srcW : Src → List D → (List D → Prop) → Prop
  | .seq, [.lst xs], K => K xs
  | .seq, [.tup xs], K => K xs
  | .seq, [.str z], K => K (z.cps.toList.map fun c => .str ⟨#[c]⟩)
  | .seq, [.dct kvs], K => K (kvs.map (·.1))
  | .rng, [.int j], K => (-(2 ^ 62) ≤ j ∧ j < 2 ^ 62) ∧ K ((List.range j.toNat).map fun (i : Nat) => .int (0 + (i : Int)))
  | .rng, [.int i, .int j], K => (-(2 ^ 62) ≤ i ∧ i < 2 ^ 62 ∧ -(2 ^ 62) ≤ j ∧ j < 2 ^ 62) ∧ K ((List.range (j - i).toNat).map fun (n : Nat) => .int (i + (n : Int)))
  | .enm, [.lst xs], K => K (xs.zipIdx.map fun p => .tup [.int (p.2 : Int), p.1])
  | .zip, [.lst xs, .lst ys], K => K ((xs.zip ys).map fun p => .tup [p.1, p.2])
  | .itm, [.dct kvs], K => K (kvs.map fun p => .tup [p.1, p.2])
  | .vals, [.dct kvs], K => K (kvs.map (·.2))
  | .rev, [.lst xs], K => K xs.reverse
  | _, _, _ => False
/-- a comprehension's turns: f gives an item or none -/
def compW (f : D → Ev → (Option D → Ev → Prop) → Prop) : List D → List D → Ev → (List D → Ev → Prop) → Prop
  | [], acc, e, K => K acc e
  | d :: ds, acc, e, K => f d e fun r e1 => match r with
    | none => compW f ds acc e1 K
    | some x => acc.length < sizeLine ∧ compW f ds (acc ++ [x]) e1 K
def wipeE (e : Ev) : List Nat → Ev
  | [] => e
  | i :: is => (wipeE e is).set i none
/-- what the names hold again behind a comprehension -/
def backE (e0 e : Ev) : List Nat → Ev
  | [] => e
  | i :: is => (backE e0 e is).set i ((e0[i]?).getD none)
/-- what a borrowed thing is as data -/
def bfz : O → Option D
  | .pu d => some d
  | .fl xs => some (.lst xs)
  | .fd kvs => some (.dct kvs)
  | _ => none
/-- the operands as data: written ones, and names that are only read -/
def avD : List Av → Ev → Option (List D)
  | [], _ => some []
  | .v o :: r, e => (avD r e).map (o.fz :: ·)
  | .io i :: r, e => match e[i]? with
    | some (some o) => match bfz o with
      | some d => (avD r e).map (d :: ·)
      | none => none
    | _ => none
/-- a value as it is, or as a test's answer -/
def asK : Bool → (O → Ev → Prop) → O → Ev → Prop
  | false, K => K
  | true, K => fun o e => ∃ k, truD o.fz = some k ∧ K (.pu (.bl k)) e
/-- whether a value counts as true; behind a test's answer it is a bool -/
def tkD : Bool → O → Bool → Prop
  | false, o, k => truD o.fz = some k
  | true, o, k => o = .pu (.bl k)
mutual
/-- an expression; t: as a test -/
def wE (Γ : Gam) (t : Bool) : E → Ev → (O → Ev → Prop) → (Xp → Ev → Prop) → Prop
  | .var i, e, K, _ => ∃ o, e[i]? = some (some o) ∧ asK t K (.pu o.fz) (e.set i (some (.pu o.fz)))
  | .mov i, e, K, _ => ∃ o, e[i]? = some (some o) ∧ asK t K o (e.set i none)
  | .con d, e, K, _ => asK t K (.pu d) e
  | .glb _, _, _, _ => False
  | .io i, e, K, _ => t = true ∧ ∃ o d k, e[i]? = some (some o) ∧ bfz o = some d ∧ truD d = some k ∧ K (.pu (.bl k)) e
  | .op o es, e, K, R => wAs Γ es e (fun as e1 => ∃ ds, avD as e1 = some ds ∧ opW o ds fun r => asK t K r e1) R
  | .slc a lo hi, e, K, R => match a with
    | .io i => (∃ o, e[i]? = some (some o)) ∧ wOI Γ lo e (fun l e2 => wOI Γ hi e2 (fun u e3 => ∃ d, avD [.io i] e3 = some [d] ∧ slcW d l u fun r => asK t K r e3) R) R
    | a => wE Γ false a e (fun x e1 => wOI Γ lo e1 (fun l e2 => wOI Γ hi e2 (fun u e3 => slcW x.fz l u fun r => asK t K r e3) R) R) R
  | .chain o1 o2 a b c, e, K, R => wE Γ false a e (fun x e1 => wE Γ false b e1 (fun y e2 => opW o1 [x.fz, y.fz] fun r => ∃ k, r = .pu (.bl k) ∧ if k = true then wE Γ false c e2 (fun z e3 => opW o2 [y.fz, z.fz] fun r2 => ∃ k2, r2 = .pu (.bl k2) ∧ K (.pu (.bl k2)) e3) R else K (.pu (.bl false)) e2) R) R
  | .ife c a b, e, K, R => wE Γ true c e (fun x e1 => ∃ k, x = .pu (.bl k) ∧ if k = true then wE Γ t a e1 K R else wE Γ t b e1 K R) R
  | .andE a b, e, K, R => wE Γ t a e (fun x e1 => ∃ k, tkD t x k ∧ if k = true then wE Γ t b e1 K R else K (.pu x.fz) e1) R
  | .orE a b, e, K, R => wE Γ t a e (fun x e1 => ∃ k, tkD t x k ∧ if k = true then K (.pu x.fz) e1 else wE Γ t b e1 K R) R
  | .notE a, e, K, R => wE Γ true a e (fun x e1 => ∃ k, x = .pu (.bl k) ∧ K (.pu (.bl (!k))) e1) R
  | .call f es, e, K, R => wAs Γ es e (fun as e1 => (avIos as).Nodup ∧ ∃ args, avArgs as e1 = some args ∧ Γ f args (fun r outs => outs.length = (avIos as).length ∧ asK t K r (putOs (avIos as) outs e1)) fun x outs => outs.length = (avIos as).length ∧ R x (putOs (avIos as) outs e1)) R
  | .mth o a es, e, K, R => match a with
    | .io i => (∃ x d, e[i]? = some (some x) ∧ bfz x = some d ∧ tyNm d = mTy o) ∧ wAs Γ es e (fun as e1 => ∃ ds, avD (.io i :: as) e1 = some ds ∧ opW o ds fun r => asK t K r e1) R
    | a => wE Γ false a e (fun x e1 => tyNm x.fz = mTy o ∧ wAs Γ es e1 (fun as e2 => ∃ ds, avD (.v x :: as) e2 = some ds ∧ opW o ds fun r => asK t K r e2) R) R
  | .comp k es tg c x sl, e, K, R => wEs Γ es e (fun os e1 => srcW k (os.map O.fz) fun items =>
      compW (fun d e2 K2 => bindT tg d e2 fun e3 => wCs Γ c e3 fun b e4 => if b = true then wE Γ false x e4 (fun o e5 => K2 (some o.fz) (wipeE e5 sl)) (fun _ _ => False) else K2 none (wipeE e4 sl)) items [] (wipeE e1 sl) fun acc e6 => asK t K (.fl acc) (backE e1 e6 sl)) R
def wEs (Γ : Gam) : List E → Ev → (List O → Ev → Prop) → (Xp → Ev → Prop) → Prop
  | [], e, K, _ => K [] e
  | a :: as, e, K, R => wE Γ false a e (fun x e1 => wEs Γ as e1 (fun xs e2 => K (x :: xs) e2) R) R
def wAs (Γ : Gam) : List E → Ev → (List Av → Ev → Prop) → (Xp → Ev → Prop) → Prop
  | [], e, K, _ => K [] e
  | a :: as, e, K, R => match a with
    | .io i => (∃ o, e[i]? = some (some o)) ∧ wAs Γ as e (fun xs e2 => K (.io i :: xs) e2) R
    | a => wE Γ false a e (fun x e1 => wAs Γ as e1 (fun xs e2 => K (.v x :: xs) e2) R) R
def wOI (Γ : Gam) : List E → Ev → (Option Int → Ev → Prop) → (Xp → Ev → Prop) → Prop
  | [], e, K, _ => K none e
  | [a], e, K, R => wE Γ false a e (fun o e1 => ∃ i, o.fz = .int i ∧ K (some i) e1) R
  | _ :: _ :: _, _, _, _ => False
def wCs (Γ : Gam) : List E → Ev → (Bool → Ev → Prop) → Prop
  | [], e, K => K true e
  | [c], e, K => wE Γ true c e (fun x e1 => ∃ k, x = .pu (.bl k) ∧ K k e1) (fun _ _ => False)
  | _ :: _ :: _, _, _ => False
end
def wT (Γ : Gam) (a : E) (e : Ev) (K : Bool → Ev → Prop) (R : Xp → Ev → Prop) : Prop := wE Γ true a e (fun x e1 => ∃ k, x = .pu (.bl k) ∧ K k e1) R
/-! ### statements -/
structure KS where
  nx : Ev → Prop
  rt : O → Ev → Prop
  bk : Ev → Prop
  ct : Ev → Prop
/-- a loop over items -/
def loopW (f : D → Ev → KS → Prop) : List D → Ev → KS → Prop
  | [], e, K => K.nx e
  | d :: ds, e, K => f d e ⟨fun e1 => loopW f ds e1 K, K.rt, K.nx, fun e1 => loopW f ds e1 K⟩
def setAll : List Nat → List O → Ev → Ev
  | i :: is, o :: os, e => setAll is os (e.set i (some o))
  | _, _, e => e
mutual
def wS (Γ : Gam) : S → Ev → KS → (Xp → Ev → Prop) → Prop
  | .exp x, e, K, R => wE Γ false x e (fun _ e1 => K.nx e1) R
  | .set i x, e, K, R => wE Γ false x e (fun o e1 => K.nx (e1.set i (some o))) R
  | .tgt t x, e, K, R => wE Γ false x e (fun o e1 => bindT t o.fz e1 K.nx) R
  | .par is es, e, K, R => wEs Γ es e (fun os e1 => os.length = is.length ∧ K.nx (setAll is os e1)) R
  | .app i x, e, K, R => (∃ xs, e[i]? = some (some (.fl xs))) ∧ wE Γ false x e (fun o e1 => ∃ xs, e1[i]? = some (some (.fl xs)) ∧ xs.length < sizeLine ∧ K.nx (e1.set i (some (.fl (xs ++ [o.fz]))))) R
  | .sti i k x, e, K, R => wE Γ false x e (fun o e1 => (∃ o2, e1[i]? = some (some o2)) ∧ wE Γ false k e1 (fun ko e2 => match e2[i]? with
      | some (some (.fl xs)) => ∃ n j, ko.fz = .int n ∧ ixN xs.length n = some j ∧ K.nx (e2.set i (some (.fl (xs.set j o.fz))))
      | some (some (.fd kvs)) => ∃ kk, D.key ko.fz = some kk ∧ kk.depth ≤ 8 ∧ kvs.length < sizeLine ∧ K.nx (e2.set i (some (.fd (dput kvs ko.fz kk o.fz))))
      | _ => False) R) R
  | .aug i o x, e, K, R => (∃ o, e[i]? = some (some o)) ∧ wE Γ false x e (fun y e1 => ∃ z, e1[i]? = some (some (.pu z)) ∧ opW o [z, y.fz] fun r => K.nx (e1.set i (some r))) R
  | .ret x, e, K, R => wE Γ false x e (fun o e1 => K.rt o e1) R
  | .retN, e, K, _ => K.rt (.pu .non) e
  | .ifs c a b, e, K, R => wE Γ true c e (fun x e1 => ∃ k, x = .pu (.bl k) ∧ if k = true then wSs Γ a e1 K R else wSs Γ b e1 K R) R
  | .fo k es t b, e, K, R => wEs Γ es e (fun os e1 => srcW k (os.map O.fz) fun items => loopW (fun d e2 K2 => bindT t d e2 fun e3 => wSs Γ b e3 K2 R) items e1 K) R
  | .wh c b, e, K, R => ∃ W : Nat → Ev → Prop, (∃ m, W m e) ∧ ∀ m e, W m e → wE Γ true c e (fun x e1 => ∃ k, x = .pu (.bl k) ∧
      if k = true then wSs Γ b e1 ⟨fun e2 => ∃ m', m' < m ∧ W m' e2, K.rt, K.nx, fun e2 => ∃ m', m' < m ∧ W m' e2⟩ R else K.nx e1) R
  | .brk, e, K, _ => K.bk e
  | .cnt, e, K, _ => K.ct e
  | .pas, e, K, _ => K.nx e
def wSs (Γ : Gam) : List S → Ev → KS → (Xp → Ev → Prop) → Prop
  | [], e, K, _ => K.nx e
  | s :: ss, e, K, R => wS Γ s e ⟨fun e1 => wSs Γ ss e1 K R, K.rt, K.bk, K.ct⟩ R
end
/-- a def's body -/
structure Fn where
  n : Nat        -- names
  ps : Nat       -- parameters
  io : List Nat  -- those whose things it may change
  b : List S
def startE (n : Nat) (args : List O) : Ev := args.map some ++ List.replicate (n - args.length) none
def outsOf : List Nat → Ev → Option (List O)
  | [], _ => some []
  | i :: is, e => match e[i]? with
    | some (some o) => (outsOf is e).map (o :: ·)
    | _ => none
/-- what is to be shown of a def -/
def Fn.Ok (Γ : Gam) (f : Fn) (fs : FS) : Prop := ∀ args K R, fs args K R → args.length = f.ps ∧
  wSs Γ f.b (startE f.n args) ⟨fun e => ∃ os, outsOf f.io e = some os ∧ K (.pu .non) os, fun o e => ∃ os, outsOf f.io e = some os ∧ K o os, fun _ => False, fun _ => False⟩ (fun x e => ∃ os, outsOf f.io e = some os ∧ R x os)
end DS
/-! DS6: the meaning is sound over the judgements. -/
namespace DS
open PySem PySem.Spec PyProof.Rows L2
/-- an exception as the heap has it -/
def XpRep (C : Kx) (xc : Nat → Addr) (Z : Addr → Prop) (H : Hp) (x : Xp) (cls : Value) (d : Option Addr) : Prop :=
  cls = .ref (xc x.c) ∧ ((x.fs = [] ∧ d = none) ∨ ∃ a fvs, d = some a ∧ H a = some (.xd fvs) ∧ RDf C Z H x.fs fvs)
/-- how a def is called: the name, the written arguments, those that may change -/
structure Gi where
  name : Str
  np : Nat
  io : List Nat
  /-- the keywords of the last arguments -/
  ks : List Str
structure Cn where
  k : Kx
  xc : Nat → Addr
  G : List Gi
  io : List Nat
  Γ : Gam
  /-- constants: a name of the text, or a name and its class's own name; the value -/
  cs : List (Str × Option Str × D)
/-- what stands at a constant -/
def CstOk (K : PySem.W.Frag) (mg : Str → Option Value) (q : Str × Option Str × D) : Prop := ∃ v : V, (match q.2.1 with
  | none => ∃ u, mg q.1 = some u ∧ RelV v u
  | some f => ∃ D mc u, mg q.1 = some (.ref D) ∧ ClX.CRead K D mc ∧ ClX.CVal K D mc f v u) ∧ ∀ C Z H, RD C Z H q.2.2 v
def iov (io : List Nat) (vs : List V) : List V := io.map fun i => vs.getD i .non
def spOf (c : Cn) (np : Nat) (io : List Nat) (fs : FS) : Sp := fun vs H Q E => vs.length = np ∧ ∃ Z args F, ROs c.k Z H args vs F ∧ F.Nodup ∧ (∀ a ∈ F, ¬ Z a) ∧ (∀ a, Z a → ∃ o, H a = some o) ∧
  ∃ (K : O → List O → Prop) (R : Xp → List O → Prop), fs args K R ∧ (∀ o outs, K o outs → ∀ Z' H' v, After c.k Z H F Z' H' (o :: outs) (v :: iov io vs) → Q v H') ∧
    ∀ x outs, R x outs → ∀ Z' H' cls d, After c.k Z H F Z' H' outs (iov io vs) → XpRep c.k c.xc Z' H' x cls d → E cls d H'
/-- a def of the text, as it is called -/
def GAt (c : Cn) (P : Program) (w : World) (K : PySem.W.Frag) (mg : Str → Option Value) (base : Heap) (lv : Nat) (i : Nat) (gi : Gi) : Prop :=
  ∃ f fd ps sp n g gV, FnOk P w K mg base (L2.CX P w) lv f fd ps sp ∧ mg gi.name = some (.ref f) ∧ PySem.W.keepIn K (.ref f) = true ∧ KBn K fd ps n gi.ks g gV ∧ n + gi.ks.length = gi.np ∧
    ∀ vs zs H Q E, vs.length = n → zs.length = gi.ks.length → spOf c gi.np gi.io (c.Γ i) (vs ++ zs) H Q E → sp (gV vs zs) H Q E
structure GOk (c : Cn) (X : Cx) (lv : Nat) (i : Nat) (gi : Gi) : Prop where
  fn : GAt c X.prog X.w X.K X.mg X.base lv i gi
structure Fit (c : Cn) (lv : Nat) (sc : Scope) (fb : Str → Bool) (N : List Str) (X : Cx) (W : WX) : Prop where
  hK : X.K = c.k.K
  hw : X.w = c.k.w
  hN : X.N = N
  hsc : X.env.scope = sc
  nd : N.Nodup
  calm : X.calm = true
  room : Room lv X.A
  fnc : X.fn = fb
  blt : ∀ x ∈ (["len", "sum", "max", "min", "abs", "list", "tuple", "dict", "sorted", "int", "str", "repr", "all", "any", "isinstance", "range", "enumerate", "zip", "reversed", "bool"] : List Str), X.mg x = none
  fn : ∀ i gi, c.G[i]? = some gi → GOk c X lv i gi
  cst : ∀ q ∈ c.cs, CstOk X.K X.mg q
  tk : Takes X W
theorem PE.imp {X : Cx} {x : Expr} {t t' : TE} (h : PE X x t) (i : ∀ σ H Q, t' σ H Q → t σ H Q) : PE X x t' := ⟨fun pins s σ H Q I q => h.run pins s σ H Q I (i σ H Q q)⟩
theorem PT.imp {X : Cx} {x : Expr} {t t' : TT} (h : PT X x t) (i : ∀ σ H Q, t' σ H Q → t σ H Q) : PT X x t' := ⟨fun pins s σ H Q I q => h.run pins s σ H Q I (i σ H Q q)⟩
theorem PA.imp {X : Cx} {x : List Expr} {t t' : TA} (h : PA X x t) (i : ∀ σ H Q, t' σ H Q → t σ H Q) : PA X x t' := ⟨fun pos pins s σ H Q I q => h.run pos pins s σ H Q I (i σ H Q q)⟩
theorem PS.imp {X : Cx} {x : Stmt} {t t' : TS} (h : PS X x t) (i : ∀ D σ H, t' D σ H → t D σ H) : PS X x t' := ⟨fun pins s σ H D I q => h.run pins s σ H D I (i D σ H q)⟩
theorem PSs.imp {X : Cx} {x : List Stmt} {t t' : TS} (h : PSs X x t) (i : ∀ D σ H, t' D σ H → t D σ H) : PSs X x t' := ⟨fun pins s σ H D I q => h.run pins s σ H D I (i D σ H q)⟩
/-- where an exception goes -/
def ExTo (c : Cn) (B : Bs) (R : Xp → Ev → Prop) (W : WX) : Prop := B.io.map (·.1) = c.io ∧ ∀ σ x e Z H cls d, Wd c.k B Z H σ e [] → XpRep c.k c.xc Z H x cls d → R x e → W cls d σ H
/-- what is wanted, as the world says it -/
def QTo (c : Cn) (B : Bs) (σ : Sl) (T : Tm) (K : O → Ev → Prop) (Q : VK) : Prop := ∀ v Z H o e, Wd c.k B Z H σ e ((o, v) :: T) → K o e → Q v H
def tE (c : Cn) (W : WX) (a : E) : TE := fun σ H Q => ∃ B Z e T K R, Wd c.k B Z H σ e T ∧ wE c.Γ false a e K R ∧ QTo c B σ T K Q ∧ ExTo c B R W
def tT (c : Cn) (W : WX) (a : E) : TT := fun σ H Q => ∃ B Z e T K R, Wd c.k B Z H σ e T ∧ wT c.Γ a e K R ∧ (∀ Z' H' k e', Wd c.k B Z' H' σ e' T → K k e' → Q k H') ∧ ExTo c B R W
def tEs (c : Cn) (W : WX) (as : List E) : TA := fun σ H Q => ∃ B Z e T K R, Wd c.k B Z H σ e T ∧ wEs c.Γ as e K R ∧ (∀ os vs Z' H' e', os.length = vs.length → os.length = as.length → Wd c.k B Z' H' σ e' ((zipT os vs).reverse ++ T) → K os e' → Q vs H') ∧ ExTo c B R W
section
variable {c : Cn} {lv : Nat} {sc : Scope} {fb : Str → Bool} {N : List Str} {X : Cx} {W : WX}
def visB (sc : Scope) (x : Str) : Bool := match sc.names.lookup x with
  | some .local => true | some .cell => true | some .free => true | _ => false
theorem vis_of {x : Str} (h : visB sc x = true) : Vis sc x := by
  unfold visB at h
  unfold Vis
  split at h
  · exact .inl (by assumption)
  · exact .inr (.inl (by assumption))
  · exact .inr (.inr (by assumption))
  · cases h
theorem Wd.readVar {C : Kx} {B : Bs} {Z : Addr → Prop} {H : Hp} {e : Ev} {σ : Sl} {T : Tm} {i : Nat} {o : O} (w : Wd C B Z H σ e T) (he : e[i]? = some (some o)) : ∃ v Z', σ[i]? = some (some v) ∧ Wd C B Z' H σ (e.set i (some (.pu o.fz))) ((.pu o.fz, v) :: T) := by
  obtain ⟨v, hs, w1⟩ := w.take he
  obtain ⟨Z', k, w2, r⟩ := w1.frz
  refine ⟨v, Z', hs, ?_⟩
  have w3 := (w2.push r).push r
  have hi : i < e.length := (List.getElem?_eq_some_iff.mp he).1
  have := w3.back (i := i) (by rw [List.getElem?_set_self hi]) hs
  rwa [List.set_set] at this
theorem e_var {i : Nat} {y : Str} {pos : Pos} (g : Fit c lv sc fb N X W) (hN : N[i]? = some y) (hv : visB sc y = true) (hd : (y == ("__debug__" : Str)) = false) (hcd : (y == ("__classdict__" : Str)) = false) : PE X (.Name y pos) (tE c W (.var i)) := by
  refine PE.imp (pe_var (i := i) (by rw [g.hN]; exact hN) (by rw [g.hsc]; exact vis_of hv) hd hcd) ?_
  rintro σ H Q ⟨B, Z, e, T, K, R, wd, we, q, _⟩
  obtain ⟨o, he, hk⟩ := we
  obtain ⟨v, Z', hs, w2⟩ := wd.readVar he
  exact ⟨v, hs, q v Z' H _ _ w2 hk⟩
theorem e_mov {i : Nat} {y : Str} {pos : Pos} (g : Fit c lv sc fb N X W) (hN : N[i]? = some y) (hv : visB sc y = true) (hd : (y == ("__debug__" : Str)) = false) (hcd : (y == ("__classdict__" : Str)) = false) : PE X (.Name y pos) (tE c W (.mov i)) := by
  refine PE.imp (pe_var (i := i) (by rw [g.hN]; exact hN) (by rw [g.hsc]; exact vis_of hv) hd hcd) ?_
  rintro σ H Q ⟨B, Z, e, T, K, R, wd, we, q, _⟩
  obtain ⟨o, he, hk⟩ := we
  obtain ⟨v, hs, w1⟩ := wd.take he
  exact ⟨v, hs, q v Z H _ _ w1 hk⟩
def conB : D → Const → Bool
  | .non, .none => true
  | .bl b, .bool b' => b == b'
  | .int i, .int j => i == j
  | .str x, .str y => x == y
  | _, _ => false
theorem e_con {d : D} {k : Const} {j : Nat} {pos : Pos} (h : conB d k = true) : PE X (.Constant k j pos) (tE c W (.con d)) := by
  have main : ∀ v : V, PE X (.Constant k j pos) (tC v) → (∀ Z H, RD c.k Z H d v) → PE X (.Constant k j pos) (tE c W (.con d)) := by
    intro v hp hr
    refine PE.imp hp ?_
    rintro σ H Q ⟨B, Z, e, T, K, R, wd, we, q, _⟩
    exact q v Z H _ _ (wd.push (hr Z H)) we
  cases d <;> cases k <;> simp only [conB, Bool.false_eq_true, beq_iff_eq] at h
  · exact main _ pe_non fun _ _ => by simp only [RD]
  · subst h; exact main _ pe_bl fun _ _ => by simp only [RD]
  · subst h; exact main _ pe_int fun _ _ => by simp only [RD]
  · subst h; exact main _ pe_str fun _ _ => by simp only [RD]
end
end DS
/-! DS7: operations. -/
namespace DS
open PySem PySem.Spec PyProof.Rows L2
/-- the value v is the data d, to be read: a list or a dict itself need not stand fast -/
def rvD (C : Kx) (Z : Addr → Prop) (H : Hp) (v : V) : D → Prop
  | .lst xs => ∃ a vs, v = .ref a ∧ H a = some (.lst vs) ∧ RDs C Z H xs vs
  | .dct kvs => ∃ a, v = .ref a ∧ DicAt C Z H a kvs
  | d => RD C Z H d v
structure RV (C : Kx) (Z : Addr → Prop) (H : Hp) (d : D) (v : V) : Prop where
  r : rvD C Z H v d
theorem RD.rv {C : Kx} {Z : Addr → Prop} {H : Hp} {d : D} {v : V} (r : RD C Z H d v) : RV C Z H d v := by
  constructor
  cases d with
  | lst xs => simp only [RD] at r; obtain ⟨a, vs, e, _, h, q⟩ := r; exact ⟨a, vs, e, h, q⟩
  | dct kvs => exact r.dic
  | _ => exact r
theorem RO.rv {C : Kx} {Z : Addr → Prop} {H : Hp} {o : O} {v : V} {F : List Addr} {d : D} (r : RO C Z H o v F) (h : bfz o = some d) : RV C Z H d v := by
  cases o with
  | pu d' => simp only [bfz, Option.some.injEq] at h; subst h; simp only [RO] at r; exact r.2.rv
  | fl xs => simp only [bfz, Option.some.injEq] at h; subst h; simp only [RO] at r; obtain ⟨a, vs, _, e, q, rd⟩ := r; exact ⟨a, vs, e, q, rd⟩
  | fd kvs => simp only [bfz, Option.some.injEq] at h; subst h; obtain ⟨a, _, e, q⟩ := r.dic; exact ⟨a, e, q⟩
  | tu os => simp [bfz] at h
  | ob k fs => simp [bfz] at h
section
variable {C : Kx} {Z : Addr → Prop} {H : Hp} {v : V}
theorem RV.int' {i : Int} (r : RV C Z H (.int i) v) : v = .int i := by have := r.r; simpa only [rvD, RD] using this
theorem RV.bl' {i : Bool} (r : RV C Z H (.bl i) v) : v = .bl i := by have := r.r; simpa only [rvD, RD] using this
theorem RV.str' {i : Str} (r : RV C Z H (.str i) v) : v = .str i := by have := r.r; simpa only [rvD, RD] using this
theorem RV.non' (r : RV C Z H .non v) : v = .non := by have := r.r; simpa only [rvD, RD] using this
theorem RV.lst' {xs : List D} (r : RV C Z H (.lst xs) v) : ∃ a vs, v = .ref a ∧ H a = some (.lst vs) ∧ RDs C Z H xs vs := r.r
theorem RV.tup' {xs : List D} (r : RV C Z H (.tup xs) v) : ∃ a vs, v = .ref a ∧ H a = some (.tup vs) ∧ RDs C Z H xs vs := by have := r.r; simpa only [rvD, RD] using this
theorem RV.tup0 {xs : List D} (r : RV C Z H (.tup xs) v) : RD C Z H (.tup xs) v := r.r
theorem RV.scr0 {xs : List D} (r : RV C Z H (.scr xs) v) : RD C Z H (.scr xs) v := r.r
theorem RV.dic {kvs : List (D × D)} (r : RV C Z H (.dct kvs) v) : ∃ a, v = .ref a ∧ DicAt C Z H a kvs := r.r
end
def RVs (C : Kx) (Z : Addr → Prop) (H : Hp) : List D → List V → Prop
  | [], vs => vs = []
  | d :: ds, vs => ∃ v r, vs = v :: r ∧ RV C Z H d v ∧ RVs C Z H ds r
def OpW2 (c : Cn) (o : Op) (rr : R2) : Prop := ∀ {B : Bs} {Z : Addr → Prop} {H : Hp} {σ : Sl} {e : Ev} {T : Tm} {x y : V} {d1 d2 : D} {K : O → Prop} {Q : VK}, Wd c.k B Z H σ e T → RV c.k Z H d1 x → RV c.k Z H d2 y → opW o [d1, d2] K →
  (∀ v Z' H' r, Wd c.k B Z' H' σ e ((r, v) :: T) → K r → Q v H') → rr x y H Q
def OpW1 (c : Cn) (o : Op) (rr : V → Hp → VK → Prop) : Prop := ∀ {B : Bs} {Z : Addr → Prop} {H : Hp} {σ : Sl} {e : Ev} {T : Tm} {x : V} {d : D} {K : O → Prop} {Q : VK}, Wd c.k B Z H σ e T → RV c.k Z H d x → opW o [d] K →
  (∀ v Z' H' r, Wd c.k B Z' H' σ e ((r, v) :: T) → K r → Q v H') → rr x H Q
def OpWn (c : Cn) (o : Op) (rr : List V → Hp → VK → Prop) : Prop := ∀ {B : Bs} {Z : Addr → Prop} {H : Hp} {σ : Sl} {e : Ev} {T : Tm} {vs : List V} {ds : List D} {K : O → Prop} {Q : VK}, Wd c.k B Z H σ e T → RVs c.k Z H ds vs → opW o ds K →
  (∀ v Z' H' r, Wd c.k B Z' H' σ e ((r, v) :: T) → K r → Q v H') → rr vs H Q
/-! operands -/
def ioB : E → Bool
  | .io _ => true
  | _ => false
def avB : Av → Bool
  | .io _ => true
  | .v _ => false
def avT : List Av → List V → Tm
  | .v o :: as, v :: vs => (o, v) :: avT as vs
  | .io _ :: as, _ :: vs => avT as vs
  | _, _ => []
def avS (σ : Sl) : List Av → List V → Prop
  | [], [] => True
  | .v _ :: as, _ :: vs => avS σ as vs
  | .io i :: as, v :: vs => σ[i]? = some (some v) ∧ avS σ as vs
  | _, _ => False
theorem Wd.peek {C : Kx} {B : Bs} {Z : Addr → Prop} {H : Hp} {e : Ev} {σ : Sl} {T : Tm} {i : Nat} {o : O} {d : D} {v : V} (w : Wd C B Z H σ e T) (he : e[i]? = some (some o)) (hb : bfz o = some d) (hs : σ[i]? = some (some v)) : RV C Z H d v := by
  obtain ⟨F, G, h1, _⟩ := w.ex
  obtain ⟨v', F1, F2, h2, h3, _⟩ := h1.take he
  rw [hs] at h2
  cases h2
  exact h3.rv hb
theorem RV.keepZ {C : Kx} {Z Z' : Addr → Prop} {H : Hp} {d : D} {v : V} (k : Kp Z Z' H H) (r : RV C Z H d v) : RV C Z' H d v := by
  constructor
  cases d with
  | lst xs => obtain ⟨a, vs, e, h, q⟩ := r.lst'; exact ⟨a, vs, e, h, q.keep k⟩
  | dct kvs => obtain ⟨a, e, o, es, ep, h1, h2, h3, h4, h5, h6, h7⟩ := r.dic; exact ⟨a, e, o, es, ep, h1, h2, h3, h4, h5, h6, h7.keep k⟩
  | _ => exact RD.keep k r.r
theorem RVs.keepZ {C : Kx} {Z Z' : Addr → Prop} {H : Hp} (k : Kp Z Z' H H) : ∀ {ds : List D} {vs : List V}, RVs C Z H ds vs → RVs C Z' H ds vs
  | [], _, h => h
  | _ :: _, _, ⟨v, r, e, h1, h2⟩ => ⟨v, r, e, h1.keepZ k, h2.keepZ k⟩
/-- the operands at last -/
theorem Wd.ops {C : Kx} {B : Bs} {H : Hp} {e : Ev} {σ : Sl} : ∀ {as : List Av} {vs : List V} {T : Tm} {Z : Addr → Prop} {ds : List D}, avS σ as vs → avD as e = some ds → Wd C B Z H σ e ((avT as vs).reverse ++ T) → ∃ Z', Kp Z Z' H H ∧ Wd C B Z' H σ e T ∧ RVs C Z' H ds vs
  | [], [], T, Z, ds, _, hd, w => by simp only [avD, Option.some.injEq] at hd; subst hd; exact ⟨Z, .refl, w, rfl⟩
  | .v o :: as, v :: vs, T, Z, ds, hs, hd, w => by
    simp only [avD, Option.map_eq_some_iff] at hd
    obtain ⟨l, h1, rfl⟩ := hd
    have w' : Wd C B Z H σ e ((avT as vs).reverse ++ ((o, v) :: T)) := by simpa [avT] using w
    obtain ⟨Z1, k1, w1, r1⟩ := Wd.ops (as := as) (vs := vs) hs h1 w'
    obtain ⟨Z2, k2, w2, r2⟩ := w1.frz
    exact ⟨Z2, k1.trans k2, w2, v, vs, rfl, r2.rv, r1.keepZ k2⟩
  | .io i :: as, v :: vs, T, Z, ds, hs, hd, w => by
    simp only [avD] at hd
    split at hd
    · rename_i o ho
      split at hd
      · rename_i d hb
        simp only [Option.map_eq_some_iff] at hd
        obtain ⟨l, h1, rfl⟩ := hd
        obtain ⟨Z1, k1, w1, r1⟩ := Wd.ops (as := as) (vs := vs) hs.2 h1 w
        exact ⟨Z1, k1, w1, v, vs, rfl, w1.peek ho hb hs.1, r1⟩
      · cases hd
    · cases hd
  | .v _ :: _, [], _, _, _, h, _, _ => h.elim
  | .io _ :: _, [], _, _, _, h, _, _ => h.elim
  | [], _ :: _, _, _, _, h, _, _ => h.elim
section
variable {c : Cn} {lv : Nat} {sc : Scope} {fb : Str → Bool} {N : List Str} {X : Cx} {W : WX}
/-- an operand's reading -/
def tX (c : Cn) (W : WX) : E → TE
  | .io i => tVar i
  | a => tE c W a
theorem wAs_v {Γ : Gam} {a : E} {as : List E} {e : Ev} {K : List Av → Ev → Prop} {R : Xp → Ev → Prop} (h : ioB a = false) : wAs Γ (a :: as) e K R = wE Γ false a e (fun x e1 => wAs Γ as e1 (fun xs e2 => K (.v x :: xs) e2) R) R := by
  cases a <;> first | (simp [ioB] at h; done) | rfl | (conv => lhs; unfold wAs)
theorem tX_v {a : E} (h : ioB a = false) : tX c W a = tE c W a := by
  cases a <;> first | (simp [ioB] at h; done) | rfl
/-- how a value stands behind an operand -/
def Lk (σ : Sl) : Av → V → Tm → Prop
  | .v o, v, T => T = [(o, v)]
  | .io i, v, T => T = [] ∧ σ[i]? = some (some v)
theorem xRead {a : E} {as : List E} {B : Bs} {Z : Addr → Prop} {H : Hp} {σ : Sl} {e : Ev} {T : Tm} {K : List Av → Ev → Prop} {R : Xp → Ev → Prop} {Q : VK} (wd : Wd c.k B Z H σ e T) (we : wAs c.Γ (a :: as) e K R) (ex : ExTo c B R W)
    (q : ∀ v Z1 H1 e1 av T1, Lk σ av v T1 → Wd c.k B Z1 H1 σ e1 (T1 ++ T) → wAs c.Γ as e1 (fun xs e2 => K (av :: xs) e2) R → Q v H1) : tX c W a σ H Q := by
  cases hi : ioB a with
  | true =>
    cases a <;> first | (simp [ioB] at hi; done) | skip
    rename_i i
    unfold wAs at we
    obtain ⟨⟨o, ho⟩, we⟩ := we
    obtain ⟨v, hs, _⟩ := wd.take ho
    exact ⟨v, hs, q v Z H e (.io i) [] ⟨rfl, hs⟩ wd we⟩
  | false =>
    rw [tX_v hi]
    rw [wAs_v hi] at we
    exact ⟨B, Z, e, T, _, R, wd, we, fun v1 Z1 H1 o1 e1 w1 k1 => q v1 Z1 H1 e1 (.v o1) [(o1, v1)] rfl w1 k1, ex⟩
theorem lk_S {σ : Sl} {av : Av} {v : V} {T1 : Tm} {as : List Av} {vs : List V} (h : Lk σ av v T1) (h2 : avS σ as vs) : avS σ (av :: as) (v :: vs) ∧ (avT (av :: as) (v :: vs)).reverse = (avT as vs).reverse ++ T1 := by
  cases av with
  | v o => cases h; exact ⟨h2, by simp [avT]⟩
  | io i => obtain ⟨rfl, h⟩ := h; exact ⟨⟨h, h2⟩, by simp [avT]⟩
theorem opRead2g {o : Op} {rr : R2} {a b : E} {t : Bool} {B : Bs} {Z : Addr → Prop} {H : Hp} {σ : Sl} {e : Ev} {T : Tm} {K : O → Ev → Prop} {R : Xp → Ev → Prop} {Q : VK} (wd : Wd c.k B Z H σ e T) (we : wE c.Γ t (.op o [a, b]) e K R) (ex : ExTo c B R W)
    (k : ∀ v1 v2 Z1 H1 e1 d1 d2, Wd c.k B Z1 H1 σ e1 T → RV c.k Z1 H1 d1 v1 → RV c.k Z1 H1 d2 v2 → opW o [d1, d2] (fun r => asK t K r e1) → rr v1 v2 H1 Q) : tOp rr (tX c W a) (tX c W b) σ H Q := by
  unfold wE at we
  refine xRead wd we ex fun v1 Z1 H1 e1 a1 T1 k1 w1 we1 => ?_
  refine xRead w1 we1 ex fun v2 Z2 H2 e2 a2 T2 k2 w2 we2 => ?_
  unfold wAs at we2
  obtain ⟨ds, hd, we2⟩ := we2
  obtain ⟨s2, t2⟩ := lk_S k2 (as := []) (vs := []) trivial
  obtain ⟨s1, t1⟩ := lk_S k1 s2
  have w3 : Wd c.k B Z2 H2 σ e2 ((avT [a1, a2] [v1, v2]).reverse ++ T) := by rw [t1, t2]; simpa [avT] using w2
  obtain ⟨Z3, kp, w4, rs⟩ := w3.ops s1 hd
  rcases ds with _ | ⟨d1, _ | ⟨d2, _ | ⟨d3, ds⟩⟩⟩
  · simp [RVs] at rs
  · simp [RVs] at rs
  · obtain ⟨_, _, e, r1, _, _, e', r2, _⟩ := rs
    cases e
    cases e'
    exact k _ _ _ _ _ _ _ w4 r1 r2 we2
  · obtain ⟨_, _, e, _, _, _, e', _, _, _, e3, _⟩ := rs
    cases e
    cases e'
    cases e3
theorem opRead2 {o : Op} {rr : R2} {a b : E} (hw : OpW2 c o rr) (σ : Sl) (H : Hp) (Q : VK) (h : tE c W (.op o [a, b]) σ H Q) : tOp rr (tX c W a) (tX c W b) σ H Q := by
  obtain ⟨B, Z, e, T, K, R, wd, we, q, ex⟩ := h
  exact opRead2g wd we ex fun v1 v2 Z1 H1 e1 d1 d2 w1 r1 r2 k => hw w1 r1 r2 k fun v Z' H' r w' kr => q v Z' H' r e1 w' kr
theorem e_op2 {o : Op} {rr : R2} {a b : E} {x : Expr} (hp : PE X x (tOp rr (tX c W a) (tX c W b))) (hw : OpW2 c o rr) : PE X x (tE c W (.op o [a, b])) := PE.imp hp fun σ H Q h => opRead2 hw σ H Q h
theorem opRead1 {o : Op} {a : E} {t : Bool} {B : Bs} {Z : Addr → Prop} {H : Hp} {σ : Sl} {e : Ev} {T : Tm} {K : O → Ev → Prop} {R : Xp → Ev → Prop} {Q' : VK} (wd : Wd c.k B Z H σ e T) (we : wE c.Γ t (.op o [a]) e K R) (ex : ExTo c B R W)
    (k : ∀ v Z1 H1 e1 d, Wd c.k B Z1 H1 σ e1 T → RV c.k Z1 H1 d v → opW o [d] (fun r => asK t K r e1) → Q' v H1) : tX c W a σ H Q' := by
  unfold wE at we
  refine xRead wd we ex fun v1 Z1 H1 e1 a1 T1 k1 w1 we1 => ?_
  unfold wAs at we1
  obtain ⟨ds, hd, we1⟩ := we1
  obtain ⟨s1, t1⟩ := lk_S k1 (as := []) (vs := []) trivial
  have w3 : Wd c.k B Z1 H1 σ e1 ((avT [a1] [v1]).reverse ++ T) := by rw [t1]; simpa [avT] using w1
  obtain ⟨Z3, kp, w4, rs⟩ := w3.ops s1 hd
  rcases ds with _ | ⟨d1, _ | ⟨d2, ds⟩⟩
  · simp [RVs] at rs
  · obtain ⟨_, _, e, r1, _⟩ := rs
    cases e
    exact k _ _ _ _ _ w4 r1 we1
  · obtain ⟨_, _, e, _, _, _, e3, _⟩ := rs
    cases e
    cases e3
theorem e_op1 {o : Op} {rr : V → Hp → VK → Prop} {a : E} {x : Expr} (hp : PE X x (tUn rr (tX c W a))) (hw : OpW1 c o rr) : PE X x (tE c W (.op o [a])) := by
  refine PE.imp hp ?_
  rintro σ H Q ⟨B, Z, e, T, K, R, wd, we, q, ex⟩
  exact opRead1 wd we ex fun v1 Z1 H1 e1 d w1 r1 k1 => hw w1 r1 k1 fun v Z' H' r w' kr => q v Z' H' r e1 w' kr
/-- the temporaries of an argument list become data -/
theorem Wd.frzs {C : Kx} {B : Bs} {H : Hp} {e : Ev} {σ : Sl} : ∀ {os : List O} {vs : List V} {T : Tm} {Z : Addr → Prop}, os.length = vs.length → Wd C B Z H σ e ((zipT os vs).reverse ++ T) → ∃ Z', Kp Z Z' H H ∧ Wd C B Z' H σ e T ∧ RDs C Z' H (os.map O.fz) vs
  | [], [], T, Z, _, w => ⟨Z, .refl, w, by simp only [List.map_nil, RDs]⟩
  | o :: os, v :: vs, T, Z, hl, w => by
    have w' : Wd C B Z H σ e ((zipT os vs).reverse ++ ((o, v) :: T)) := by simpa [zipT] using w
    obtain ⟨Z1, k1, w1, r1⟩ := Wd.frzs (by simpa using hl) w'
    obtain ⟨Z2, k2, w2, r2⟩ := w1.frz
    exact ⟨Z2, k1.trans k2, w2, by simp only [List.map_cons, RDs]; exact ⟨v, vs, rfl, r2, r1.keep k2⟩⟩
  | [], _ :: _, _, _, hl, _ => by simp at hl
  | _ :: _, [], _, _, hl, _ => by simp at hl
def tAs (c : Cn) (W : WX) (as : List E) : TA := fun σ H Q => ∃ B Z e T K R, Wd c.k B Z H σ e T ∧ wAs c.Γ as e K R ∧
  (∀ avs vs Z' H' e', Wd c.k B Z' H' σ e' ((avT avs vs).reverse ++ T) → avS σ avs vs → avs.map avB = as.map ioB → K avs e' → Q vs H') ∧ ExTo c B R W
theorem e_opn {o : Op} {rr : List V → Hp → VK → Prop} {as : List E} {x : Expr} (hp : PE X x (tCB rr (tAs c W as))) (hw : OpWn c o rr) : PE X x (tE c W (.op o as)) := by
  refine PE.imp hp ?_
  rintro σ H Q ⟨B, Z, e, T, K, R, wd, we, q, ex⟩
  unfold wE at we
  refine ⟨B, Z, e, T, _, R, wd, we, fun avs vs Z1 H1 e1 w1 hs hb k1 => ?_, ex⟩
  obtain ⟨ds, hd, k1⟩ := k1
  obtain ⟨Z3, kp3, w3, r3⟩ := w1.ops hs hd
  exact hw w3 r3 k1 fun v Z' H' r w' kr => q v Z' H' r e1 w' kr
theorem wAs_pure {Γ : Gam} {R : Xp → Ev → Prop} : ∀ {as : List E} {e : Ev} {P : List D → Ev → Prop}, as.all (fun a => !ioB a) = true → wAs Γ as e (fun avs e1 => ∃ ds, avD avs e1 = some ds ∧ P ds e1) R = wEs Γ as e (fun os e1 => P (os.map O.fz) e1) R
  | [], e, P, _ => by
    unfold wAs wEs
    apply propext
    simp [avD]
  | a :: as, e, P, h => by
    simp only [List.all_cons, Bool.and_eq_true, Bool.not_eq_true'] at h
    rw [wAs_v h.1]
    conv => rhs; unfold wEs
    congr 1
    funext x e1
    have hf : (fun (xs : List Av) (e2 : Ev) => ∃ ds, avD (.v x :: xs) e2 = some ds ∧ P ds e2) = fun xs e2 => ∃ l, avD xs e2 = some l ∧ P (x.fz :: l) e2 := by
      funext xs e2
      apply propext
      constructor
      · rintro ⟨ds, h1, h2⟩
        simp only [avD, Option.map_eq_some_iff] at h1
        obtain ⟨l, h3, rfl⟩ := h1
        exact ⟨l, h3, h2⟩
      · rintro ⟨l, h1, h2⟩
        exact ⟨_, by simp only [avD, h1, Option.map_some], h2⟩
    rw [hf]
    exact wAs_pure (P := fun l e2 => P (x.fz :: l) e2) (by simpa using h.2)
def noStar : Expr → Bool
  | .Starred _ _ => false
  | _ => true
theorem star_of {a : Expr} {as : List Expr} (h : noStar a = true) (env : Env) : starEach (a :: as) env = (false, eval a env) :: starEach as env := by
  cases a <;> first | rfl | cases h
theorem a_nil : PA X [] (tEs c W []) := by
  refine PA.imp pa_nil ?_
  rintro σ H Q ⟨B, Z, e, T, K, R, wd, we, q, ex⟩
  exact q [] [] Z H e rfl rfl wd we
theorem a_cons {a : E} {as : List E} {x : Expr} {xs : List Expr} (ha : PE X x (tE c W a)) (hr : PA X xs (tEs c W as)) (hs : noStar x = true) : PA X (x :: xs) (tEs c W (a :: as)) := by
  refine PA.imp (pa_cons ha hr (star_of hs _)) ?_
  rintro σ H Q ⟨B, Z, e, T, K, R, wd, we, q, ex⟩
  refine ⟨B, Z, e, T, _, R, wd, we, fun v1 Z1 H1 o1 e1 w1 k1 => ?_, ex⟩
  refine ⟨B, Z1, e1, (o1, v1) :: T, _, R, w1, k1, fun os vs Z2 H2 e2 hl hla w2 k2 => ?_, ex⟩
  exact q (o1 :: os) (v1 :: vs) Z2 H2 e2 (by simp [hl]) (by simp [hla]) (by simpa [zipT] using w2) k2
/-! ### numbers -/
theorem Wd.pInt {C : Kx} {B : Bs} {Z : Addr → Prop} {H : Hp} {e : Ev} {σ : Sl} {T : Tm} (w : Wd C B Z H σ e T) (i : Int) : Wd C B Z H σ e ((.pu (.int i), .int i) :: T) := w.push (by simp only [RD])
theorem Wd.pBl {C : Kx} {B : Bs} {Z : Addr → Prop} {H : Hp} {e : Ev} {σ : Sl} {T : Tm} (w : Wd C B Z H σ e T) (b : Bool) : Wd C B Z H σ e ((.pu (.bl b), .bl b) :: T) := w.push (by simp only [RD])
theorem Wd.pStr {C : Kx} {B : Bs} {Z : Addr → Prop} {H : Hp} {e : Ev} {σ : Sl} {T : Tm} (w : Wd C B Z H σ e T) (x : Str) : Wd C B Z H σ e ((.pu (.str x), .str x) :: T) := w.push (by simp only [RD])
/-- a new list, a new tuple -/
theorem Wd.pLst {C : Kx} {B : Bs} {Z : Addr → Prop} {H : Hp} {e : Ev} {σ : Sl} {T : Tm} {ds : List D} {vs : List V} {p : Addr} (w : Wd C B Z H σ e T) (r : RDs C Z H ds vs) (hp : H p = none) : Wd C B Z (upd H p (.lst vs)) σ e ((.fl ds, .ref p) :: T) := by
  refine w.newOwn hp ?_
  simp only [RO]
  exact ⟨p, vs, rfl, rfl, upd_same, r.keep (kp_upd w.zs hp)⟩
theorem Wd.pTup {C : Kx} {B : Bs} {Z : Addr → Prop} {H : Hp} {e : Ev} {σ : Sl} {T : Tm} {ds : List D} {vs : List V} {p : Addr} (w : Wd C B Z H σ e T) (r : RDs C Z H ds vs) (hp : H p = none) : Wd C B Z (upd H p (.tup vs)) σ e ((.pu (.tup ds), .ref p) :: T) := by
  obtain ⟨k, w'⟩ := w.new hp (.tup vs)
  refine w'.push ?_
  simp only [RD]
  exact ⟨p, vs, rfl, upd_same, r.keep k⟩
theorem RDs.app {C : Kx} {Z : Addr → Prop} {H : Hp} : ∀ {ds es : List D} {vs us : List V}, RDs C Z H ds vs → RDs C Z H es us → RDs C Z H (ds ++ es) (vs ++ us)
  | [], _, _, _, h, h2 => by simp only [RDs] at h; subst h; exact h2
  | d :: ds, es, _, _, h, h2 => by
    simp only [RDs] at h
    obtain ⟨v, r, rfl, h3, h4⟩ := h
    simp only [List.cons_append, RDs]
    exact ⟨v, _, rfl, h3, h4.app h2⟩
theorem RDs.len {C : Kx} {Z : Addr → Prop} {H : Hp} : ∀ {ds : List D} {vs : List V}, RDs C Z H ds vs → vs.length = ds.length
  | [], _, h => by simp only [RDs] at h; subst h; rfl
  | d :: ds, _, h => by
    simp only [RDs] at h
    obtain ⟨v, r, rfl, h3, h4⟩ := h
    simp [h4.len]
theorem RDs.drop {C : Kx} {Z : Addr → Prop} {H : Hp} : ∀ {ds : List D} {vs : List V} (n : Nat), RDs C Z H ds vs → RDs C Z H (ds.drop n) (vs.drop n)
  | _, _, 0, h => h
  | [], _, n + 1, h => by simp only [RDs] at h; subst h; simp only [List.drop_nil, RDs]
  | d :: ds, _, n + 1, h => by
    simp only [RDs] at h
    obtain ⟨v, r, rfl, h3, h4⟩ := h
    exact h4.drop n
theorem RDs.take {C : Kx} {Z : Addr → Prop} {H : Hp} : ∀ {ds : List D} {vs : List V} (n : Nat), RDs C Z H ds vs → RDs C Z H (ds.take n) (vs.take n)
  | _, _, 0, h => by simp only [List.take_zero, RDs]
  | [], _, n + 1, h => by simp only [RDs] at h; subst h; simp only [List.take_nil, RDs]
  | d :: ds, _, n + 1, h => by
    simp only [RDs] at h
    obtain ⟨v, r, rfl, h3, h4⟩ := h
    simp only [List.take_succ_cons, RDs]
    exact ⟨v, _, rfl, h3, h4.take n⟩
theorem RDs.get {C : Kx} {Z : Addr → Prop} {H : Hp} : ∀ {ds : List D} {vs : List V} {i : Nat} {d : D}, RDs C Z H ds vs → ds[i]? = some d → ∃ v, vs[i]? = some v ∧ RD C Z H d v
  | [], _, _, _, h, e => by simp at e
  | d :: ds, _, 0, _, h, e => by
    simp only [RDs] at h
    obtain ⟨v, r, rfl, h3, h4⟩ := h
    simp at e; subst e
    exact ⟨v, rfl, h3⟩
  | d :: ds, _, i + 1, _, h, e => by
    simp only [RDs] at h
    obtain ⟨v, r, rfl, h3, h4⟩ := h
    obtain ⟨u, q1, q2⟩ := h4.get (i := i) (by simpa using e)
    exact ⟨u, by simpa using q1, q2⟩
theorem RDs.cut {C : Kx} {Z : Addr → Prop} {H : Hp} {ds : List D} {vs : List V} (lo hi : Option Int) (h : RDs C Z H ds vs) : RDs C Z H (cutL ds lo hi) (cutV vs lo hi) := by
  unfold cutL cutV
  rw [h.len]
  exact (h.drop _).take _
theorem RDs.rep {C : Kx} {Z : Addr → Prop} {H : Hp} {ds : List D} {vs : List V} (h : RDs C Z H ds vs) : ∀ n : Nat, RDs C Z H (List.replicate n ds).flatten (List.replicate n vs).flatten
  | 0 => by simp only [List.replicate_zero, List.flatten_nil, RDs]
  | n + 1 => by
    rw [List.replicate_succ, List.replicate_succ, List.flatten_cons, List.flatten_cons]
    exact h.app (RDs.rep h n)
theorem atI_map {ds : List D} {vs : List V} {i : Int} {d : D} {C : Kx} {Z : Addr → Prop} {H : Hp} (h : RDs C Z H ds vs) (e : atI ds i = some d) : ∃ v, atI vs i = some v ∧ RD C Z H d v := by
  unfold atI at e ⊢
  rw [h.len]
  cases q : ixN ds.length i with
  | none => rw [q] at e; cases e
  | some j =>
    rw [q] at e
    exact h.get e
section
variable {C : Kx} {Z : Addr → Prop} {H : Hp} {v : V}
theorem RD.int' {i : Int} (r : RD C Z H (.int i) v) : v = .int i := by simpa only [RD] using r
theorem RD.bl' {i : Bool} (r : RD C Z H (.bl i) v) : v = .bl i := by simpa only [RD] using r
theorem RD.str' {i : Str} (r : RD C Z H (.str i) v) : v = .str i := by simpa only [RD] using r
theorem RD.non' (r : RD C Z H .non v) : v = .non := by simpa only [RD] using r
theorem RD.lst' {xs : List D} (r : RD C Z H (.lst xs) v) : ∃ a vs, v = .ref a ∧ Z a ∧ H a = some (.lst vs) ∧ RDs C Z H xs vs := by simpa only [RD] using r
theorem RD.tup' {xs : List D} (r : RD C Z H (.tup xs) v) : ∃ a vs, v = .ref a ∧ H a = some (.tup vs) ∧ RDs C Z H xs vs := by simpa only [RD] using r
theorem RD.scr' {xs : List D} (K : PySem.W.Frag) (hK : K = C.K) (r : RD C Z H (.scr xs) v) : ∃ a vs, v = .ref a ∧ SqL K H a vs ∧ RDs C Z H xs vs := by
  simp only [RD] at r
  obtain ⟨a, vs, e, q, r⟩ := r
  subst hK
  exact ⟨a, vs, e, q.elim (fun z => z.2) (fun z => z H), r⟩
end
def rrAdd (K : PySem.W.Frag) : R2 := fun x y H Q => (rI0 (fun i j => .int (i + j)) x y H Q ∨ (∃ i j, x = .str i ∧ y = .str j ∧ i.length + j.length ≤ sizeLine ∧ Q (.str (i ++ j)) H)) ∨ (rCat x y H Q ∨ rCatA K x y H Q)
theorem op_rrAdd : OpR X (binaryOp .Add) (rrAdd X.K) := (op_add.or op_add_str).or (op_cat.or op_catA)
theorem w_add (hK : X.K = c.k.K) : OpW2 c .add (rrAdd X.K) := by
  intro B Z H σ e T x y d1 d2 K Q w r1 r2 h q
  cases d1 <;> cases d2 <;> simp only [opW, addW] at h
  · obtain rfl := r1.int'
    obtain rfl := r2.int'
    exact .inl (.inl ⟨_, _, rfl, rfl, q _ Z H _ (w.pInt _) h⟩)
  · obtain rfl := r1.str'
    obtain rfl := r2.str'
    exact .inl (.inr ⟨_, _, rfl, rfl, h.1, q _ Z H _ (w.pStr _) h.2⟩)
  · obtain ⟨a, vs, rfl, h1, h2⟩ := r1.lst'
    obtain ⟨b, us, rfl, h3, h4⟩ := r2.lst'
    exact .inr (.inl ⟨a, b, vs, us, rfl, rfl, h1, h3, by rw [h2.len, h4.len]; exact h.1, fun p hp => q _ Z _ _ (w.pLst (h2.app h4) hp) h.2⟩)
  · obtain ⟨a, vs, rfl, h1, h2⟩ := r1.tup'
    obtain ⟨b, us, rfl, h3, h4⟩ := r2.tup'
    refine .inr (.inr ⟨a, b, vs, us, rfl, rfl, SqT.of h1, SqT.of h3, by rw [h2.len, h4.len]; exact h.1, fun e0 => ?_, fun _ e0 => ?_, fun _ _ p hp => q _ Z _ _ (w.pTup (h2.app h4) hp) h.2⟩)
    · have := h2.app h4
      rw [e0] at this
      exact q _ Z H _ (w.push (by simp only [RD]; exact ⟨b, us, rfl, h3, this⟩)) h.2
    · have := h2.app h4
      rw [e0, List.append_nil] at this
      exact q _ Z H _ (w.push (by simp only [RD]; exact ⟨a, vs, rfl, h1, this⟩)) h.2
theorem w_sub : OpW2 c .sub (rI0 fun i j => .int (i - j)) := by
  intro B Z H σ e T x y d1 d2 K Q w r1 r2 h q
  cases d1 <;> cases d2 <;> simp only [opW, subW] at h
  obtain rfl := r1.int'
  obtain rfl := r2.int'
  exact ⟨_, _, rfl, rfl, q _ Z H _ (w.pInt _) h⟩
def rrMul : R2 := fun x y H Q => rI CMulW (fun i j => .int (i * j)) x y H Q ∨ rRep x y H Q
theorem op_rrMul : OpR X (binaryOp .Mult) rrMul := op_mulW.or op_rep
theorem w_mul : OpW2 c .mul rrMul := by
  intro B Z H σ e T x y d1 d2 K Q w r1 r2 h q
  cases d1 <;> cases d2 <;> simp only [opW, mulW] at h
  · obtain rfl := r1.int'
    obtain rfl := r2.int'
    exact .inl ⟨_, _, rfl, rfl, h.1, q _ Z H _ (w.pInt _) h.2⟩
  · obtain ⟨a, vs, rfl, h1, h2⟩ := r1.lst'
    obtain rfl := r2.int'
    exact .inr ⟨a, _, vs, rfl, rfl, h1, h.1.1, h.1.2.1, by rw [h2.len]; exact h.1.2.2, fun p hp => q _ Z _ _ (w.pLst (h2.rep _) hp) h.2⟩
theorem w_fdiv : OpW2 c .fdiv (rI CDivW fun i j => .int (i / j)) := by
  intro B Z H σ e T x y d1 d2 K Q w r1 r2 h q
  cases d1 <;> cases d2 <;> simp only [opW, fdivW] at h
  obtain rfl := r1.int'
  obtain rfl := r2.int'
  exact ⟨_, _, rfl, rfl, h.1, q _ Z H _ (w.pInt _) h.2⟩
theorem w_mod : OpW2 c .mod (rI (fun _ j => 0 < j) fun i j => .int (i % j)) := by
  intro B Z H σ e T x y d1 d2 K Q w r1 r2 h q
  cases d1 <;> cases d2 <;> simp only [opW, modW] at h
  obtain rfl := r1.int'
  obtain rfl := r2.int'
  exact ⟨_, _, rfl, rfl, h.1, q _ Z H _ (w.pInt _) h.2⟩
def CPowB (i j : Int) : Prop := 0 ≤ j ∧ (Builtin.Int.intBits i : Int) * j ≤ 2 ^ 27
theorem op_powB : OpR X (binaryOp .Pow) (rI CPowB fun i j => .int (i ^ j.toNat)) := opI fun i j t u s Q E h q => pow_int h.1 h.2 q
theorem w_pow : OpW2 c .pow (rI CPowB fun i j => .int (i ^ j.toNat)) := by
  intro B Z H σ e T x y d1 d2 K Q w r1 r2 h q
  cases d1 <;> cases d2 <;> simp only [opW, powW] at h
  obtain rfl := r1.int'
  obtain rfl := r2.int'
  exact ⟨_, _, rfl, rfl, h.1, q _ Z H _ (w.pInt _) h.2⟩
theorem w_neg : OpW1 c .neg (rU fun i => .int (-i)) := by
  intro B Z H σ e T x d K Q w r h q
  cases d <;> simp only [opW, negW] at h
  obtain rfl := r.int'
  exact ⟨_, rfl, q _ Z H _ (w.pInt _) h⟩
def rrCmp (f : Int → Int → Bool) (g : Str → Str → Bool) : R2 := fun x y H Q => rI0 (fun i j => .bl (f i j)) x y H Q ∨ ∃ i j, x = .str i ∧ y = .str j ∧ Q (.bl (g i j)) H
theorem w_cmp {o : Op} {f : Int → Int → Bool} {g : Str → Str → Bool} (ho : ∀ ds K, opW o ds K = cmpIW f g ds K) : OpW2 c o (rrCmp f g) := by
  intro B Z H σ e T x y d1 d2 K Q w r1 r2 h q
  rw [ho] at h
  cases d1 <;> cases d2 <;> simp only [cmpIW] at h
  · obtain rfl := r1.int'
    obtain rfl := r2.int'
    exact .inl ⟨_, _, rfl, rfl, q _ Z H _ (w.pBl _) h⟩
  · obtain rfl := r1.str'
    obtain rfl := r2.str'
    exact .inr ⟨_, _, rfl, rfl, q _ Z H _ (w.pBl _) h⟩
theorem op_rLt : OpR X (compareOp .Lt) (rrCmp (fun a b => decide (a < b)) fun a b => decide (a.cps.toList < b.cps.toList)) := op_lt.or op_lt_str
theorem op_rLe : OpR X (compareOp .LtE) (rrCmp (fun a b => decide (a ≤ b)) fun a b => !decide (b.cps.toList < a.cps.toList)) := op_le.or op_le_str
theorem op_rGt : OpR X (compareOp .Gt) (rrCmp (fun a b => decide (b < a)) fun a b => decide (b.cps.toList < a.cps.toList)) := op_gt.or op_gt_str
theorem op_rGe : OpR X (compareOp .GtE) (rrCmp (fun a b => decide (b ≤ a)) fun a b => !decide (a.cps.toList < b.cps.toList)) := op_ge.or op_ge_str
/-- None or not -/
theorem RV.isNon {C : Kx} {Z : Addr → Prop} {H : Hp} {d : D} {v : V} (r : RV C Z H d v) (h : noVal d = true) : decide (v = .non) = DS.isNon d := by
  cases d with
  | non => have e := r.non'; subst e; rfl
  | bl b => have e := r.bl'; subst e; rfl
  | int b => have e := r.int'; subst e; rfl
  | str b => have e := r.str'; subst e; rfl
  | lst xs => obtain ⟨a, vs, rfl, _⟩ := r.lst'; rfl
  | tup xs => obtain ⟨a, vs, rfl, _⟩ := r.tup'; rfl
  | scr xs => obtain ⟨a, vs, rfl, _⟩ := r.scr0.scr' C.K rfl; rfl
  | dct xs => obtain ⟨a, rfl, _⟩ := r.dic; rfl
  | ins k fs =>
    have r := r.r
    simp only [rvD, RD] at r
    obtain ⟨a, _, _, rfl, _⟩ := r
    rfl
  | val u => cases h
theorem e_isN {a : E} {x : Expr} {j pos' pos} (ha : PE X x (tX c W a)) : PE X (.Compare x [.Is] [.Constant .none j pos'] pos) (tE c W (.op .isN [a])) := by
  refine PE.imp (pe_cmp (pc_isN ha) rfl) ?_
  rintro σ H Q ⟨B, Z, e, T, K, R, wd, we, q, ex⟩
  refine opRead1 wd we ex fun v1 Z1 H1 e1 d w1 r1 k1 => ?_
  simp only [opW, isNW, beq_true, asK] at k1
  rw [r1.isNon k1.1]
  exact q _ Z1 _ _ _ (w1.pBl _) k1.2
theorem e_notN {a : E} {x : Expr} {j pos' pos} (ha : PE X x (tX c W a)) : PE X (.Compare x [.IsNot] [.Constant .none j pos'] pos) (tE c W (.op .notN [a])) := by
  refine PE.imp (pe_cmp (pc_notN ha) rfl) ?_
  rintro σ H Q ⟨B, Z, e, T, K, R, wd, we, q, ex⟩
  refine opRead1 wd we ex fun v1 Z1 H1 e1 d w1 r1 k1 => ?_
  simp only [opW, isNW, beq_false, asK] at k1
  rw [r1.isNon k1.1]
  exact q _ Z1 _ _ _ (w1.pBl _) k1.2
theorem w_tup {es : List Expr} {as : List E} {x1 pos} (ha : PA X es (tEs c W as)) (hn : as.all (fun a => !ioB a) = true) : PE X (.Tuple es x1 pos) (tE c W (.op .tup as)) := by
  refine PE.imp (pe_tup ha) ?_
  rintro σ H Q ⟨B, Z, e, T, K, R, wd, we, q, ex⟩
  unfold wE at we
  rw [wAs_pure hn] at we
  refine ⟨B, Z, e, T, _, R, wd, we, fun os vs Z1 H1 e1 hl hla w1 k1 => ?_, ex⟩
  obtain ⟨Z3, kp3, w3, r3⟩ := w1.frzs hl
  simp only [opW, asK] at k1
  exact ⟨by rw [r3.len]; exact k1.1, fun p hp => q _ Z3 _ _ _ (w3.pTup r3 hp) k1.2⟩
theorem w_lst {es : List Expr} {as : List E} {pos} (ha : PA X es (tEs c W as)) (hn : as.all (fun a => !ioB a) = true) : PE X (.List es pos) (tE c W (.op .lst as)) := by
  refine PE.imp (pe_lst ha) ?_
  rintro σ H Q ⟨B, Z, e, T, K, R, wd, we, q, ex⟩
  unfold wE at we
  rw [wAs_pure hn] at we
  refine ⟨B, Z, e, T, _, R, wd, we, fun os vs Z1 H1 e1 hl hla w1 k1 => ?_, ex⟩
  obtain ⟨Z3, kp3, w3, r3⟩ := w1.frzs hl
  simp only [opW, asK] at k1
  exact ⟨by rw [r3.len]; exact k1.1, fun p hp => q _ Z3 _ _ _ (w3.pLst r3 hp) k1.2⟩
/-! ### built-in functions -/
theorem RDs.one {C : Kx} {Z : Addr → Prop} {H : Hp} {d : D} {vs : List V} (h : RDs C Z H [d] vs) : ∃ v, vs = [v] ∧ RD C Z H d v := by
  simp only [RDs] at h
  obtain ⟨v, r, rfl, h1, rfl⟩ := h
  exact ⟨v, rfl, h1⟩
theorem RDs.two {C : Kx} {Z : Addr → Prop} {H : Hp} {d1 d2 : D} {vs : List V} (h : RDs C Z H [d1, d2] vs) : ∃ v u, vs = [v, u] ∧ RD C Z H d1 v ∧ RD C Z H d2 u := by
  simp only [RDs] at h
  obtain ⟨v, r, rfl, h1, u, r2, rfl, h2, rfl⟩ := h
  exact ⟨v, u, rfl, h1, h2⟩
theorem RVs.one {C : Kx} {Z : Addr → Prop} {H : Hp} {d : D} {vs : List V} (h : RVs C Z H [d] vs) : ∃ v, vs = [v] ∧ RV C Z H d v := by
  obtain ⟨v, r, rfl, h1, rfl⟩ := h
  exact ⟨v, rfl, h1⟩
theorem RVs.two {C : Kx} {Z : Addr → Prop} {H : Hp} {d1 d2 : D} {vs : List V} (h : RVs C Z H [d1, d2] vs) : ∃ v u, vs = [v, u] ∧ RV C Z H d1 v ∧ RV C Z H d2 u := by
  obtain ⟨v, r, rfl, h1, u, q, rfl, h2, rfl⟩ := h
  exact ⟨v, u, rfl, h1, h2⟩
theorem w_max2 : OpWn c .max2 (fun xs H Q => ∃ i j, xs = [.int i, .int j] ∧ Q (.int (if j > i then j else i)) H) := by
  intro B Z H σ e T vs ds K Q w r h q
  simp only [opW] at h
  unfold max2W at h
  split at h
  · obtain ⟨v, u, rfl, r1, r2⟩ := RVs.two r
    have e1 := r1.int'
    have e2 := r2.int'
    subst e1 e2
    exact ⟨_, _, rfl, q _ Z H _ (w.pInt _) h⟩
  · exact h.elim
theorem w_min2 : OpWn c .min2 (fun xs H Q => ∃ i j, xs = [.int i, .int j] ∧ Q (.int (if j < i then j else i)) H) := by
  intro B Z H σ e T vs ds K Q w r h q
  simp only [opW] at h
  unfold min2W at h
  split at h
  · obtain ⟨v, u, rfl, r1, r2⟩ := RVs.two r
    have e1 := r1.int'
    have e2 := r2.int'
    subst e1 e2
    exact ⟨_, _, rfl, q _ Z H _ (w.pInt _) h⟩
  · exact h.elim
theorem w_abs : OpWn c .abs (fun xs H Q => ∃ i, xs = [.int i] ∧ Q (.int (if i < 0 then -i else i)) H) := by
  intro B Z H σ e T vs ds K Q w r h q
  simp only [opW] at h
  unfold absW at h
  split at h
  · obtain ⟨v, rfl, r1⟩ := RVs.one r
    have e1 := r1.int'
    subst e1
    exact ⟨_, rfl, q _ Z H _ (w.pInt _) h⟩
  · exact h.elim
def rrList : List V → Hp → VK → Prop := fun xs H Q => ∃ p ys, xs = [.ref p] ∧ (SqL X.K H p ys ∨ SqT X.K H p ys) ∧ ∀ l, H l = none → Q (.ref l) (upd H l (.lst ys))
theorem w_tupleOf : OpWn c .tupleOf (fun xs H Q => ∃ p ys, xs = [.ref p] ∧ ((SqL X.K H p ys ∧ ∀ l, H l = none → Q (.ref l) (upd H l (.tup ys))) ∨ (SqT X.K H p ys ∧ Q (.ref p) H))) := by
  intro B Z H σ e T vs ds K Q w r h q
  simp only [opW] at h
  unfold tupleW at h
  split at h
  · obtain ⟨v, rfl, r1⟩ := RVs.one r
    obtain ⟨a, us, rfl, h1, h2⟩ := r1.lst'
    exact ⟨a, us, rfl, .inl ⟨SqL.of h1, fun l hl => q _ Z _ _ (w.pTup h2 hl) h⟩⟩
  · obtain ⟨v, rfl, r1⟩ := RVs.one r
    obtain ⟨a, us, rfl, h1, h2⟩ := r1.tup'
    exact ⟨a, us, rfl, .inr ⟨SqT.of h1, q _ Z H _ (w.push r1.tup0) h⟩⟩
  · exact h.elim
/-! ### subscripts, slices -/
def noSlice : Expr → Bool
  | .Slice _ _ _ _ => false
  | _ => true
theorem plainIx_of {b : Expr} (h : noSlice b = true) : PlainIx b := by
  intro o i
  cases b <;> first | rfl | cases h
def tSlO (c : Cn) (W : WX) : List E → TO
  | [a] => tPart (tE c W a)
  | _ => tNoPart
theorem w_slc {x : Expr} {lo hi : Option Expr} {a : E} {l u : List E} {p2 pos : Pos} (hK : X.K = c.k.K) (ha : PE X x (tX c W a)) (hl : PO X lo (tSlO c W l)) (hu : PO X hi (tSlO c W u)) : PE X (.Subscript x (.Slice lo hi none p2) pos) (tE c W (.slc a l u)) := by
  refine PE.imp (pe_slice ((sl_list (X := X)).or ((sl_str (X := X)).or (sl_tupA (X := X)))) ha hl hu) ?_
  rintro σ H Q ⟨B, Z, e, T, K, R, wd, we, q, ex⟩
  suffices core : ∀ v1 Z1 H1 e1 av T1, Lk σ av v1 T1 → Wd c.k B Z1 H1 σ e1 (T1 ++ T) → wOI c.Γ l e1 (fun lo e2 => wOI c.Γ u e2 (fun hi e3 => ∃ d, avD [av] e3 = some [d] ∧ slcW d lo hi fun r => asK false K r e3) R) R →
      tSlO c W l σ H1 (fun i H2 => tSlO c W u σ H2 fun j H3 => rSlL X.K v1 i j H3 Q ∨ rSlS v1 i j H3 Q ∨ rSlA X.K v1 i j H3 Q) by
    cases hi : ioB a with
    | true =>
      cases a <;> first | (simp [ioB] at hi; done) | skip
      rename_i i
      unfold wE at we
      obtain ⟨⟨o, ho⟩, we⟩ := we
      obtain ⟨v, hs, _⟩ := wd.take ho
      exact ⟨v, hs, core v Z H e (.io i) [] ⟨rfl, hs⟩ wd we⟩
    | false =>
      rw [tX_v hi]
      have we2 : wE c.Γ false a e (fun x e1 => wOI c.Γ l e1 (fun lo e2 => wOI c.Γ u e2 (fun hi e3 => slcW x.fz lo hi fun r => asK false K r e3) R) R) R := by
        cases a <;> first | (simp [ioB] at hi; done) | exact we
      refine ⟨B, Z, e, T, _, R, wd, we2, fun v1 Z1 H1 o1 e1 w1 k1 => core v1 Z1 H1 e1 (.v o1) [(o1, v1)] rfl w1 ?_, ex⟩
      have hf : (fun (hi : Option Int) (e3 : Ev) => ∃ d, avD [.v o1] e3 = some [d] ∧ True) = fun _ _ => True := by funext hi e3; simp [avD]
      simpa [avD] using k1
  intro v1 Z1 H1 e1 av T1 lk w1 k1
  have fin : ∀ {Z2 : Addr → Prop} {H2 : Hp} {e2 : Ev} {i j : Option Int}, Wd c.k B Z2 H2 σ e2 (T1 ++ T) → (∃ d, avD [av] e2 = some [d] ∧ slcW d i j fun r => asK false K r e2) → (rSlL X.K v1 i j H2 Q ∨ rSlS v1 i j H2 Q ∨ rSlA X.K v1 i j H2 Q) := by
    intro Z2 H2 e2 i j w2 ⟨d, hd, k2⟩
    obtain ⟨s1, t1⟩ := lk_S lk (as := []) (vs := []) trivial
    have w2' : Wd c.k B Z2 H2 σ e2 ((avT [av] [v1]).reverse ++ T) := by rw [t1]; simpa [avT] using w2
    obtain ⟨Z3, kp3, w3, rs⟩ := w2'.ops s1 hd
    obtain ⟨_, e0, r3⟩ := RVs.one rs
    cases e0
    cases d with
    | lst xs =>
      obtain ⟨p, vs, rfl, h1, h2⟩ := r3.lst'
      exact .inl ⟨p, vs, rfl, SqL.of h1, fun l hl => q _ Z3 _ _ _ (w3.pLst (h2.cut i j) hl) k2⟩
    | scr xs =>
      obtain ⟨p, vs, rfl, h1, h2⟩ := r3.scr0.scr' X.K hK
      exact .inl ⟨p, vs, rfl, h1, fun l hl => q _ Z3 _ _ _ (w3.pLst (h2.cut i j) hl) k2⟩
    | tup xs =>
      obtain ⟨p, vs, rfl, h1, h2⟩ := r3.tup'
      refine .inr (.inr ⟨p, vs, rfl, SqT.of h1, fun hh => ?_, fun _ l hl => q _ Z3 _ _ _ (w3.pTup (h2.cut i j) hl) k2⟩)
      have e0 : cutL xs i j = xs := by
        unfold cutL
        rw [h2.len] at hh
        rw [hh.1, hh.2, List.drop_zero, Nat.sub_zero, List.take_length]
      simp only [slcW, e0] at k2
      exact q _ Z3 _ _ _ (w3.push (by simp only [RD]; exact ⟨p, vs, rfl, h1, h2⟩)) k2
    | str z =>
      have e1 := r3.str'
      subst e1
      exact .inr (.inl ⟨z, rfl, k2.1, q _ Z3 _ _ _ (w3.pStr _) k2.2⟩)
    | _ => exact k2.elim
  have part : ∀ (b : List E) {Z2 : Addr → Prop} {H2 : Hp} {e2 : Ev} {KK : Option Int → Ev → Prop} {Q2 : Option Int → Hp → Prop}, Wd c.k B Z2 H2 σ e2 (T1 ++ T) → wOI c.Γ b e2 KK R →
      (∀ i Z' H' e', Wd c.k B Z' H' σ e' (T1 ++ T) → KK i e' → Q2 i H') → tSlO c W b σ H2 Q2 := by
    intro b Z2 H2 e2 KK Q2 w2 k2 h2
    match b, k2 with
    | [], k2 => exact h2 none _ _ _ w2 k2
    | [a], k2 =>
      refine ⟨B, Z2, e2, _, _, R, w2, k2, fun v3 Z3 H3 o3 e3 w3 k3 => ?_, ex⟩
      obtain ⟨i, hi, k4⟩ := k3
      obtain ⟨Z4, kp4, w4, r4⟩ := w3.frz
      rw [hi] at r4
      exact ⟨i, r4.int', h2 _ _ _ _ w4 k4⟩
    | _ :: _ :: _, k2 => exact k2.elim
  exact part l w1 k1 fun i Z2 H2 e2 w2 k2 => part u w2 k2 fun j Z3 H3 e3 w3 k3 => fin w3 k3
end
end DS
/-! DS7b: len and truth of a dict; truth. -/
namespace DS
open PySem PySem.Spec PyProof.Rows L2
section
variable {prog : Program} {w : World} {A : Around} {E : Value → Shared → Prop} {s : Shared} {d : Addr} {o : Obj} {xs : List En}
theorem g_lenB {Q : Value → Shared → Prop} (hd : (d == sysModules) = false) (g : GD w s.heap d o xs) (hfit : (xs.length : Int) < 2 ^ 63)
    (h : Q (.int xs.length (s.toks + 1)) { s with toks := s.toks + 1 + 1 }) : wpAny (model prog w) A (Builtin.«len» ⟨[.ref d], []⟩) (fun fin s' => ∃ r, fin = .done (.ret r) ∧ Q r s') E s := by
  unfold Builtin.«len»
  refine wpAny_bind (m := oneArg "len" _) (wpAny_pure ?_)
  refine wpAny_bind (m := callSpecial? (.ref d) (Str.ofString "__len__")) (wpAny_callSpecial?_slot (name := Str.ofString "__len__") g.ty F.slot_dict_len
    (g_len (w := w) hd g ?_))
  show wpAny _ _ _ _ _ { s with toks := s.toks + 1 }
  refine wpAny_bind (wpAny_holding (wpAny_pure ?_))
  refine wpAny_bind (wpAny_letGo ?_)
  show wpAny _ _ (if ((xs.length : Nat) : Int) < 0 then _ else _) _ _ _
  rw [if_neg (by omega)]
  show wpAny _ _ (if ((xs.length : Nat) : Int) ≥ 2 ^ 63 then _ else _) _ _ _
  rw [if_neg (by omega)]
  exact wpAny_bind (wpAny_mkInt (wpAny_pure ⟨_, rfl, h⟩))
theorem g_lenC {Q : Value → Shared → Prop} (hd : (d == sysModules) = false) (g : GD w s.heap d o xs) (hfit : (xs.length : Int) < 2 ^ 63)
    (h : Q (.int xs.length (s.toks + 1)) { s with toks := s.toks + 1 + 1 }) : wpAny (model prog w) A (call (.builtin "len") [.ref d]) Q E s :=
  Calls.call_function_entry kind_len plain_len entry_len (args_len1 _) (g_lenB hd g hfit h)
theorem g_truth {Q : Bool → Shared → Prop} (hd : (d == sysModules) = false) (g : GD w s.heap d o xs) (hfit : (xs.length : Int) < 2 ^ 63)
    (h : Q (!xs.isEmpty) { s with toks := s.toks + 1 + 1 }) : wpAny (model prog w) A (truthy (.ref d)) Q E s := by
  have hne : ((xs.length : Int) != 0) = !xs.isEmpty := by cases xs <;> simp <;> omega
  have key : wpAny (model prog w) A (runValue (.builtin "len" ⟨[.ref d], []⟩)) (fun r s' => r = .int xs.length (s.toks + 1) ∧ Q (!xs.isEmpty) s') E s := by
    refine wpAny_runValue (codeAny_builtin entry_len ?_)
    rw [Around.under_plainId plain_len _]
    exact wpAny_mono (g_lenB (Q := fun r s' => r = .int xs.length (s.toks + 1) ∧ Q (!xs.isEmpty) s') hd g hfit ⟨rfl, h⟩)
      (fun fin s' h' => by obtain ⟨r, rfl, hq⟩ := h'; exact hq) fun _ _ e => e
  unfold truthy
  first
    | refine wpAny_bind (wpAny_callSpecial?_none (name := Str.ofString "__bool__") g.ty noBool_dict ?_)
    | refine wpAny_bind (wpAny_pure (wpAny_bind (wpAny_callSpecial?_none (name := Str.ofString "__bool__") g.ty noBool_dict ?_)))
  first
    | refine wpAny_bind (wpAny_specialOf (name := Str.ofString "__len__") g.ty F.slot_dict_len.lookup ?_)
    | refine wpAny_bind (wpAny_pure (wpAny_bind (wpAny_specialOf (name := Str.ofString "__len__") g.ty F.slot_dict_len.lookup ?_)))
  first
    | exact wpAny_bind (wpAny_mono key (fun r s' h' => by obtain ⟨rfl, hq⟩ := h'; exact wpAny_pure (hne ▸ hq)) fun _ _ e => e)
    | exact wpAny_bind (wpAny_pure (wpAny_bind (wpAny_mono key (fun r s' h' => by obtain ⟨rfl, hq⟩ := h'; exact wpAny_pure (hne ▸ hq)) fun _ _ e => e)))
end
end DS
/-! DS9: == of data. -/
namespace DS
open PySem PySem.Spec PyProof.Rows L2 PySem.SeqAt
def eAt (xs ys : List D) (j : Nat) : Bool := match xs[j]?, ys[j]? with
  | some x, some y => deq x y
  | _, _ => true
theorem deqs_all : ∀ (xs ys : List D), deqs xs ys = ((List.range (min xs.length ys.length)).all (eAt xs ys) && xs.length == ys.length)
  | [], [] => by simp [deqs]
  | [], y :: ys => by simp [deqs]
  | x :: xs, [] => by simp [deqs]
  | x :: xs, y :: ys => by
    rw [deqs]
    rw [deqs_all xs ys]
    simp only [List.length_cons, Nat.succ_min_succ, List.range_succ_eq_map, List.all_cons, List.all_map]
    have h : (eAt (x :: xs) (y :: ys) ∘ Nat.succ) = eAt xs ys := by funext j; simp [eAt]
    have h0 : eAt (x :: xs) (y :: ys) 0 = deq x y := rfl
    have h2 : (xs.length + 1 == ys.length + 1) = (xs.length == ys.length) := by simp
    rw [Function.comp_def] at h
    simp only [Function.comp_def, h, h0, h2, Bool.and_assoc]
section
variable {prog : Program} {w : World} {A : Around} {E : Value → Shared → Prop} {s : Shared}
/-- the entries of a in b -/
inductive Hits (prog : Program) (w : World) (A : Around) (s : Shared) (xb : List En) : List En → Bool → Prop
  | nil : Hits prog w A s xb [] true
  | miss {x : En} {r : List En} : gat xb x.1 = none → Hits prog w A s xb (x :: r) false
  | hit {x : En} {y : Value} {r : List En} {e b : Bool} : gat xb x.1 = some y → EqIn prog w A s x.2.2 y e → (e = true → Hits prog w A s xb r b) → Hits prog w A s xb (x :: r) (e && b)
theorem Hits.inv {xb r : List En} {x : En} {b : Bool} (h : Hits prog w A s xb (x :: r) b) : (gat xb x.1 = none ∧ b = false) ∨ ∃ y e b', gat xb x.1 = some y ∧ EqIn prog w A s x.2.2 y e ∧ (e = true → Hits prog w A s xb r b') ∧ b = (e && b') := by
  cases h with
  | miss h => exact .inl ⟨h, rfl⟩
  | hit h1 h2 h3 => exact .inr ⟨_, _, _, h1, h2, h3, rfl⟩
theorem range_step {i n x : Nat} {rest : List Nat} (h : x :: rest = List.range' i (n - i)) : x = i ∧ i < n ∧ rest = List.range' (i + 1) (n - (i + 1)) := by
  rcases Nat.lt_or_ge i n with hlt | hge
  · have e : n - i = (n - (i + 1)) + 1 := by omega
    rw [e, List.range'_succ] at h
    injection h with h1 h2
    exact ⟨h1, hlt, h2⟩
  · rw [Nat.sub_eq_zero_of_le hge] at h
    simp at h
theorem g_same {nm : String} {a b : Addr} {oa ob : Obj} {ya yb : List En} {r : Bool} {Q : Bool → Shared → Prop} (ha : (a == sysModules) = false) (hb : (b == sysModules) = false) (ga : GD w s.heap a oa ya) (gb : GD w s.heap b ob yb) (hu : A.units + 8 < cLine)
    (hits : ya.length = yb.length → Hits prog w A s yb ya r) (h : Q (ya.length == yb.length && r) s) : wpAny (model prog w) A (Builtin.Dict.samePairs nm a b) Q E s := by
  obtain ⟨es, ep, e1, e2⟩ := ga.dat
  obtain ⟨es', ep', f1, f2⟩ := gb.dat
  have la : es.size = ya.length := by rw [← Array.length_toList, e2, List.length_map]
  have lb : es'.size = yb.length := by rw [← Array.length_toList, f2, List.length_map]
  unfold Builtin.Dict.samePairs Builtin.Dict.showsAll
  rw [if_neg (by rw [ha]; decide), if_neg (by rw [hb]; decide)]
  refine wpAny_bind (wpAny_pure (wpAny_bind (wpAny_pure (wpAny_bind (wpAny_dictEntries ga.get e1 ?_)))))
  dsimp only
  refine wpAny_bind (wpAny_dictEntries gb.get f1 ?_)
  by_cases hl : ya.length = yb.length
  · have hs : es.size = es'.size := by rw [la, lb, hl]
    have h' : Q r s := by simpa [hl] using h
    rw [if_neg (by rw [hs]; simp)]
    refine wpAny_bind (wpAny_dictEpoch ga.get e1 (wpAny_bind ?_))
    rw [Std.Legacy.Range.forIn_eq_forIn_range']
    simp only [Std.Legacy.Range.size, Nat.sub_zero, Nat.add_sub_cancel, Nat.div_one]
    refine wpAny_forIn_list _ (fun rest q s' => s' = s ∧ q = (none, ()) ∧ ∃ i, rest = List.range' i (es.size - i) ∧ i ≤ es.size ∧ Hits prog w A s yb (ya.drop i) r) _ ?_ ?_ _ _ ⟨rfl, rfl, 0, by simp, Nat.zero_le _, hits hl⟩
    · rintro x rest q s' ⟨rfl, rfl, i, hr, hi, hh⟩
      obtain ⟨rfl, lt, hr'⟩ := range_step hr
      have lt2 : x < ya.length := by rw [← la]; exact lt
      have hat : es[x]? = some (En.ent w ya[x]) := by rw [ga.at e2, List.getElem?_eq_getElem lt2]; rfl
      rw [List.drop_eq_getElem_cons lt2] at hh
      obtain ⟨hk, h8⟩ := ga.key _ (List.getElem_mem lt2)
      refine wpAny_bind (wpAny_dictEntries ga.get e1 ?_)
      rw [hat]
      refine wpAny_bind (wpAny_holding (wpAny_bind ?_))
      refine gfind (kv := (ya[x]).2.1) hu hk h8 gb f1 f2 (fun hn => ?_) fun j p hj => ?_
      · rcases hh.inv with ⟨_, er⟩ | ⟨y, _, _, hy, _⟩
        · rw [er] at h'
          refine wpAny_pure ?_
          rw [if_pos (by decide)]
          exact wpAny_pure (wpAny_pure h')
        · rw [gat_none hn] at hy
          cases hy
      · refine wpAny_bind (wpAny_dictEntries gb.get f1 ?_)
        have hj' : es'[j]? = some (En.ent w ((ya[x]).1, p)) := by rw [gb.at f2, hj]; rfl
        rw [hj']
        have hg : gat yb (ya[x]).1 = some p.2 := gat_of gb.nd hj
        rcases hh.inv with ⟨hn, _⟩ | ⟨y, e, b', hy, he, hrr, er⟩
        · rw [hg] at hn
          cases hn
        · rw [hg] at hy
          cases hy
          refine wpAny_holding (he _ _ ?_)
          cases e with
          | false =>
            rw [er, Bool.false_and] at h'
            rw [if_pos (by decide)]
            exact wpAny_pure (wpAny_pure h')
          | true =>
            rw [Bool.true_and] at er
            have hrr := hrr rfl
            rw [← er] at hrr
            rw [if_neg (by decide)]
            refine wpAny_bind (wpAny_dictEpoch ga.get e1 ?_)
            rw [if_neg (by simp)]
            exact wpAny_pure ⟨rfl, rfl, x + 1, hr', lt, hrr⟩
    · rintro q s' ⟨rfl, rfl, i, hr, hi, hh⟩
      have hin : ya.length ≤ i := by
        rcases Nat.lt_or_ge i es.size with h2 | h2
        · have e : es.size - i = (es.size - (i + 1)) + 1 := by omega
          rw [e, List.range'_succ] at hr
          cases hr
        · omega
      rw [List.drop_eq_nil_of_le hin] at hh
      cases hh
      exact wpAny_pure h'
  · rw [if_pos (by rw [la, lb]; simpa using hl)]
    have hf : (ya.length == yb.length) = false := by simpa using hl
    rw [hf, Bool.false_and] at h
    exact wpAny_bind (wpAny_rule (wpAny_pure h))
end
end DS
/-! DS9b: == of data, deep. -/
namespace DS
open PySem PySem.Spec PyProof.Rows L2 PySem.SeqAt
section
variable {C : Kx} {Z : Addr → Prop} {H : Hp}
/-! ### one object, two readings -/
mutual
theorem key_one : ∀ {d1 d2 : D} {v : V} {k1 k2 : NestedKey}, RD C Z H d1 v → RD C Z H d2 v → D.key d1 = some k1 → D.key d2 = some k2 → k1 = k2
  | .non, d2, v, k1, k2, r1, r2, e1, e2 => by
    rw [RD.non' r1] at r2
    cases d2 <;> simp [RD] at r2 <;> simp_all [D.key]
  | .bl b, d2, v, k1, k2, r1, r2, e1, e2 => by
    rw [RD.bl' r1] at r2
    cases d2 <;> simp [RD] at r2 <;> simp_all [D.key]
  | .int b, d2, v, k1, k2, r1, r2, e1, e2 => by
    rw [RD.int' r1] at r2
    cases d2 <;> simp [RD] at r2 <;> simp_all [D.key]
  | .str b, d2, v, k1, k2, r1, r2, e1, e2 => by
    rw [RD.str' r1] at r2
    cases d2 <;> simp [RD] at r2 <;> simp_all [D.key]
  | .tup xs, d2, v, k1, k2, r1, r2, e1, e2 => by
    obtain ⟨a, vs, rfl, hH, h1⟩ := r1.tup'
    cases d2 with
    | tup ys =>
      obtain ⟨a2, vs2, e, hH2, h2⟩ := r2.tup'
      cases e
      rw [hH] at hH2
      cases hH2
      simp only [D.key, Option.map_eq_some_iff] at e1 e2
      obtain ⟨l1, q1, rfl⟩ := e1
      obtain ⟨l2, q2, rfl⟩ := e2
      rw [keys_one h1 h2 q1 q2]
    | _ => first | (simp [D.key] at e2; done) | (simp [RD] at r2; done)
  | .lst _, _, _, _, _, _, _, e1, _ => by simp [D.key] at e1
  | .scr _, _, _, _, _, _, _, e1, _ => by simp [D.key] at e1
  | .dct _, _, _, _, _, _, _, e1, _ => by simp [D.key] at e1
  | .ins _ _, _, _, _, _, _, _, e1, _ => by simp [D.key] at e1
  | .val _, _, _, _, _, _, _, e1, _ => by simp [D.key] at e1
theorem keys_one : ∀ {xs ys : List D} {vs : List V} {k1 k2 : List NestedKey}, RDs C Z H xs vs → RDs C Z H ys vs → D.keys xs = some k1 → D.keys ys = some k2 → k1 = k2
  | [], ys, vs, k1, k2, r1, r2, e1, e2 => by
    simp only [RDs] at r1
    subst r1
    cases ys with
    | nil => simp only [D.keys, Option.some.injEq] at e1 e2; rw [← e1, ← e2]
    | cons y ys => simp [RDs] at r2
  | x :: xs, ys, vs, k1, k2, r1, r2, e1, e2 => by
    simp only [RDs] at r1
    obtain ⟨v, r, rfl, h1, h2⟩ := r1
    cases ys with
    | nil => simp [RDs] at r2
    | cons y ys =>
      simp only [RDs] at r2
      obtain ⟨v', r', e, h3, h4⟩ := r2
      cases e
      simp only [D.keys] at e1 e2
      cases c1 : D.key x with
      | none => simp [c1] at e1
      | some a1 =>
        cases f1 : D.keys xs with
        | none => simp [c1, f1] at e1
        | some b1 =>
          cases c2 : D.key y with
          | none => simp [c2] at e2
          | some a2 =>
            cases f2 : D.keys ys with
            | none => simp [c2, f2] at e2
            | some b2 =>
              simp only [c1, f1, Option.some.injEq] at e1
              simp only [c2, f2, Option.some.injEq] at e2
              rw [← e1, ← e2, key_one h1 h3 c1 c2, keys_one h2 h4 f1 f2]
end
theorem dget_of : ∀ {kvs : List (D × D)} {p : D × D} {k : NestedKey}, DNodup kvs → p ∈ kvs → D.key p.1 = some k → dget kvs k = some p.2
  | q :: r, p, k, nd, hp, e => by
    simp only [dget]
    rcases List.mem_cons.mp hp with h | h
    · subst h
      rw [if_pos e]
    · have h2 := nd.1 p h
      rw [if_neg (fun h3 => h2 (by rw [e, h3]))]
      exact dget_of nd.2 h e
mutual
theorem same_deq {P : Program} {h : Heap} (hok : HOk P C.w H h) : ∀ {d1 d2 : D} {v : V}, RD C Z H d1 v → RD C Z H d2 v → comp d1 d2 = true → deq d1 d2 = true
  | .non, d2, v, r1, r2, e => by
    rw [RD.non' r1] at r2
    cases d2 <;> simp [RD] at r2 <;> simp_all [comp, deq]
  | .bl b, d2, v, r1, r2, e => by
    rw [RD.bl' r1] at r2
    cases d2 <;> simp [RD] at r2 <;> simp_all [comp, deq, numD]
  | .int b, d2, v, r1, r2, e => by
    rw [RD.int' r1] at r2
    cases d2 <;> simp [RD] at r2 <;> simp_all [comp, deq, numD]
  | .str b, d2, v, r1, r2, e => by
    rw [RD.str' r1] at r2
    cases d2 <;> simp [RD] at r2 <;> simp_all [comp, deq]
  | .lst xs, d2, v, r1, r2, e => by
    obtain ⟨a, vs, rfl, hz, hH, h1⟩ := r1.lst'
    cases d2 with
    | lst ys =>
      obtain ⟨a2, vs2, e', hz2, hH2, h2⟩ := r2.lst'
      cases e'
      rw [hH] at hH2
      cases hH2
      simp only [comp] at e
      simp only [deq]
      exact same_deqs hok h1 h2 e
    | tup ys =>
      obtain ⟨a2, vs2, e', hH2, h2⟩ := r2.tup'
      cases e'
      rw [hH] at hH2
      cases hH2
    | _ => first | (simp [comp] at e; done) | (simp [RD] at r2; done)
  | .tup xs, d2, v, r1, r2, e => by
    obtain ⟨a, vs, rfl, hH, h1⟩ := r1.tup'
    cases d2 with
    | tup ys =>
      obtain ⟨a2, vs2, e', hH2, h2⟩ := r2.tup'
      cases e'
      rw [hH] at hH2
      cases hH2
      simp only [comp] at e
      simp only [deq]
      exact same_deqs hok h1 h2 e
    | lst ys =>
      obtain ⟨a2, vs2, e', hz2, hH2, h2⟩ := r2.lst'
      cases e'
      rw [hH] at hH2
      cases hH2
    | _ => first | (simp [comp] at e; done) | (simp [RD] at r2; done)
  | .dct xs, d2, v, r1, r2, e => by
    cases d2 with
    | dct ys =>
      simp only [RD] at r1 r2
      obtain ⟨a, o, es, ep, rfl, z, h1, h2, h3, h4, h5, h6, h7⟩ := r1
      obtain ⟨a', o', es', ep', e', z', g1, g2, g3, g4, g5, g6, g7⟩ := r2
      cases e'
      have eo := ((hok a _ h1).1).symm.trans (hok a _ g1).1
      cases eo
      rw [h4] at g4
      cases g4
      simp only [comp] at e
      simp only [deq, Bool.and_eq_true, decide_eq_true_eq]
      refine ⟨?_, same_dsub hok h7 g7 (fun p hp k hk => dget_of g6 hp hk) e⟩
      rw [← h7.get.1, ← g7.get.1]
    | _ => simp [comp] at e
  | .scr _, _, _, _, _, e => by simp [comp] at e
  | .ins _ _, _, _, _, _, e => by simp [comp] at e
  | .val _, _, _, _, _, e => by simp [comp] at e
theorem same_deqs {P : Program} {h : Heap} (hok : HOk P C.w H h) : ∀ {xs ys : List D} {vs : List V}, RDs C Z H xs vs → RDs C Z H ys vs → comps xs ys = true → deqs xs ys = true
  | [], ys, vs, r1, r2, e => by
    simp only [RDs] at r1
    subst r1
    cases ys with
    | nil => rfl
    | cons y ys => simp [RDs] at r2
  | x :: xs, ys, vs, r1, r2, e => by
    simp only [RDs] at r1
    obtain ⟨v, r, rfl, h1, h2⟩ := r1
    cases ys with
    | nil => simp [RDs] at r2
    | cons y ys =>
      simp only [RDs] at r2
      obtain ⟨v', r', e', h3, h4⟩ := r2
      cases e'
      simp only [comps, Bool.and_eq_true] at e
      simp only [deqs, Bool.and_eq_true]
      exact ⟨same_deq hok h1 h3 e.1, same_deqs hok h2 h4 e.2⟩
theorem same_dsub {P : Program} {h : Heap} (hok : HOk P C.w H h) : ∀ {xs ys zs : List (D × D)} {es : List DictEntry}, RDk C Z H xs es → RDk C Z H ys es → (∀ p ∈ ys, ∀ k, D.key p.1 = some k → dget zs k = some p.2) → compk xs zs = true → dsub xs zs = true
  | [], ys, zs, es, _, _, _, _ => rfl
  | (x1, x2) :: xs, ys, zs, es, r1, r2, hz, e => by
    simp only [RDk] at r1
    obtain ⟨en, er, k, kv, vv, rfl, q1, q2, q3, q4, q5, q6, q7, q8⟩ := r1
    cases ys with
    | nil => simp [RDk] at r2
    | cons y ys =>
      simp only [RDk] at r2
      obtain ⟨en', er', k', kv', vv', e', p1, p2, p3, p4, p5, p6, p7, p8⟩ := r2
      cases e'
      cases q4.inj p4
      cases q5.inj p5
      have hk : k = k' := key_one q6 p6 q1 p1
      subst hk
      have hg := hz y (List.mem_cons_self ..) k p1
      simp only [compk, q1, hg, Bool.and_eq_true] at e
      simp only [dsub, q1, hg, Bool.and_eq_true]
      exact ⟨same_deq hok q7 p7 e.1, same_dsub hok q8 p8 (fun p hp => hz p (List.mem_cons_of_mem _ hp)) e.2⟩
end
end
end DS
/-! DS9c: == of data, run. -/
namespace DS
open PySem PySem.Spec PyProof.Rows L2 PySem.SeqAt
section
variable {prog : Program} {A : Around} {E : Value → Shared → Prop} {s : Shared} {C : Kx} {Z Z2 : Addr → Prop} {H : Hp}
theorem eqIn_b {w : World} {u v : Value} {b b' : Bool} (h : EqAt A s u v b) (e : b = b') : EqIn prog w A s u v b' := by
  subst e
  exact h.inModel prog w
theorem lst_at {w : World} {a : Addr} {vs : List V} (hok : HOk prog w H s.heap) (h : H a = some (.lst vs)) : ∃ its, Vals vs its ∧ s.heap.IsList a its.toArray := by
  obtain ⟨_, its, n, r, e⟩ := hok a _ h
  exact ⟨its, r, _, e, rfl, n, rfl⟩
theorem tup_at {w : World} {a : Addr} {vs : List V} (hok : HOk prog w H s.heap) (h : H a = some (.tup vs)) : ∃ its, Vals vs its ∧ s.heap.IsTuple a its.toArray := by
  obtain ⟨_, its, r, e⟩ := hok a _ h
  exact ⟨its, r, e⟩
/-- a value that is no dict: what == knows of it -/
inductive Kd (s : Shared) : Value → Prop
  | non : Kd s .none
  | bl (b : Bool) : Kd s (.bool b)
  | int (i : Int) (t : Tok) : Kd s (.int i t)
  | str (x : Str) (t : Tok) : Kd s (.str x t)
  | lst {a : Addr} {its : Array Value} (h : s.heap.IsList a its) : Kd s (.ref a)
  | tup {a : Addr} {its : Array Value} (h : s.heap.IsTuple a its) : Kd s (.ref a)
theorem items_of {w : World} {n : Nat} (ih : ∀ (A : Around) (d1 d2 : D) (v1 v2 : V) (u1 u2 : Value), depD d1 ≤ n → comp d1 d2 = true → RD C Z H d1 v1 → RD C Z2 H d2 v2 → RelV v1 u1 → RelV v2 u2 → A.units + n + 10 < cLine → EqIn prog w A s u1 u2 (deq d1 d2)) :
    ∀ {xs ys : List D} {vs us : List V} {is js : List Value}, depDs xs ≤ n → comps xs ys = true → RDs C Z H xs vs → RDs C Z2 H ys us → Vals vs is → Vals us js → A.units + n + 10 < cLine → ∀ j (h1 : j < is.length) (h2 : j < js.length), EqIn prog w A s is[j] js[j] (eAt xs ys j)
  | [], ys, vs, us, is, js, _, _, r1, _, q1, _, _, j, h1, _ => by
    simp only [RDs] at r1
    subst r1
    cases q1
    simp at h1
  | x :: xs, [], vs, us, is, js, _, _, _, r2, _, q2, _, j, _, h2 => by
    simp only [RDs] at r2
    subst r2
    cases q2
    simp at h2
  | x :: xs, y :: ys, vs, us, is, js, hd, hc, r1, r2, q1, q2, hu, j, h1, h2 => by
    simp only [RDs] at r1 r2
    obtain ⟨v, vr, rfl, r1, r1'⟩ := r1
    obtain ⟨u, ur, rfl, r2, r2'⟩ := r2
    cases q1 with
    | cons q1 q1' =>
      cases q2 with
      | cons q2 q2' =>
        simp only [depDs] at hd
        simp only [comps, Bool.and_eq_true] at hc
        cases j with
        | zero => exact ih A _ _ _ _ _ _ (by omega) hc.1 r1 r2 q1 q2 hu
        | succ j =>
          have := items_of ih (xs := xs) (ys := ys) (by omega) hc.2 r1' r2' q1' q2' hu j (by simpa using h1) (by simpa using h2)
          simpa [eAt] using this
theorem in1_units : A.in1.units ≤ A.units + 1 := by unfold Around.in1; simp
theorem hits_of {w : World} (hw : C.w = w) {n : Nat} {yb : List En} {zs : List (D × D)} (alb : Al C Z2 H zs yb) (ih : ∀ (d1 d2 : D) (v1 v2 : V) (u1 u2 : Value), depD d1 ≤ n → comp d1 d2 = true → RD C Z H d1 v1 → RD C Z2 H d2 v2 → RelV v1 u1 → RelV v2 u2 → EqIn prog w A s u1 u2 (deq d1 d2)) :
    ∀ {xs : List (D × D)} {ya : List En}, depDk xs ≤ n → compk xs zs = true → Al C Z H xs ya → Hits prog w A s yb ya (dsub xs zs)
  | [], ya, _, _, al => by
    simp only [Al] at al
    subst al
    exact .nil
  | p :: r, ya, hd, hc, al => by
    simp only [Al] at al
    obtain ⟨k, kv, vv, v, v', xr, rfl, e1, e2, e3, e4, e5, e6, e7⟩ := al
    simp only [depDk] at hd
    simp only [compk, e1, Bool.and_eq_true] at hc
    obtain ⟨g1, g2⟩ := alb.get (k := k)
    simp only [dsub, e1]
    cases q : dget zs k with
    | none => exact .miss (g1 q)
    | some d =>
      obtain ⟨yv, yy, a1, a2, a3⟩ := g2 d q
      rw [q] at hc
      exact .hit a1 (ih _ _ _ _ _ _ (by omega) hc.1 e6 a3 e4 a2) fun _ => hits_of hw alb ih (by omega) hc.2 e7
theorem dct_at {w : World} (hw : C.w = w) {kvs : List (D × D)} {v : V} {u : Value} (hok : HOk prog w H s.heap) (r : RD C Z H (.dct kvs) v) (q : RelV v u) : ∃ a o xs, u = .ref a ∧ v = .ref a ∧ (a == sysModules) = false ∧ GD w s.heap a o xs ∧ Al C Z H kvs xs := by
  obtain ⟨a, rfl, da⟩ := r.dic
  subst hw
  obtain ⟨o, xs, _, g, al, hs, _, _⟩ := da.gd hok
  cases q
  exact ⟨a, o, xs, rfl, rfl, hs, g, al⟩
theorem g_rc {w : World} {a b : Addr} {oa ob : Obj} {ya yb : List En} {r : Bool} {Q : Value → Shared → Prop} (ha : (a == sysModules) = false) (hb : (b == sysModules) = false) (ga : GD w s.heap a oa ya) (gb : GD w s.heap b ob yb) (hu : A.units + 9 < cLine)
    (hits : ya.length = yb.length → Hits prog w A.in1 s yb ya r) (h : Q (.bool (ya.length == yb.length && r)) s) : wpAny (model prog w) A (richCompare .Eq (.ref a) (.ref b)) Q E s := by
  have h1 := in1_units (A := A)
  refine wpAny_richCompare_same_room (op := .Eq) ga.ty gb.ty PySem.F.slot_dict_eq (wpAny_call_entry PySem.F.slot_dict_eq ga.ty PySem.F.entry_dict_eq ?_ (PySem.F.args_dict_eq_2 _ _)) (by omega)
  show wpAny _ _ (Builtin.Dict.dictSlotArgs "__eq__" ⟨[.ref a, .ref b], []⟩ >>= _) _ _ s
  unfold Builtin.Dict.dictSlotArgs
  refine wpAny_bind (wpAny_bind (wpAny_notOrdered_dict ga.ty (show wpAny _ _ (pure (Value.ref a, Value.ref b)) _ _ s from wpAny_pure ?_)))
  refine wpAny_bind (wpAny_isInstance (T := "dict") gb.ty PySem.F.sub_dict_dict ?_)
  simp only [Bool.not_true, Bool.false_eq_true, if_false]
  refine wpAny_bind (wpAny_pure (wpAny_bind (wpAny_pure (wpAny_bind (g_same ha hb ga gb (by omega) hits (wpAny_pure ⟨_, rfl, ?_, ?_⟩))))))
  · exact fun x => nomatch x
  · simpa using h
theorem eqD {w : World} (hw : C.w = w) (hok : HOk prog w H s.heap) : ∀ (n : Nat) (A : Around) (d1 d2 : D) (v1 v2 : V) (u1 u2 : Value), depD d1 ≤ n → comp d1 d2 = true → RD C Z H d1 v1 → RD C Z H d2 v2 → RelV v1 u1 → RelV v2 u2 → A.units + n + 10 < cLine → EqIn prog w A s u1 u2 (deq d1 d2) := by
  intro n
  induction n using Nat.strongRecOn with
  | ind n ih =>
  intro A d1 d2 v1 v2 u1 u2 hd hc r1 r2 q1 q2 hu
  have hu0 : A.units < cLine := by omega
  have seq : ∀ {xs ys : List D} {vs us : List V} {is js : List Value}, depDs xs + 1 ≤ n → comps xs ys = true → RDs C Z H xs vs → RDs C Z H ys us → Vals vs is → Vals us js → ∀ j (h1 : j < is.toArray.size) (h2 : j < js.toArray.size), EqIn prog w A.in1 s is.toArray[j] js.toArray[j] (eAt xs ys j) := by
    intro xs ys vs us is js hd hc r1 r2 q1 q2 j h1 h2
    have hh := in1_units (A := A)
    have := items_of (n := n - 1) (w := w) (A := A.in1) (Z2 := Z) (fun A d1 d2 v1 v2 u1 u2 => ih (n - 1) (by omega) A d1 d2 v1 v2 u1 u2) (by omega) hc r1 r2 q1 q2 (by omega) j (by simpa using h1) (by simpa using h2)
    simpa using this
  cases d1 with
  | non =>
    cases RD.non' r1
    cases q1
    cases d2 with
    | non => cases RD.non' r2; cases q2; exact eqIn_b (EqAt.same _) rfl
    | bl b => cases RD.bl' r2; cases q2; exact eqIn_b (EqAt.none_bool _) rfl
    | int b => cases RD.int' r2; obtain ⟨t, rfl⟩ := q2; exact eqIn_b (EqAt.none_int _ _) rfl
    | str b => cases RD.str' r2; obtain ⟨t, rfl⟩ := q2; exact eqIn_b (EqAt.none_str _ _) rfl
    | lst ys => obtain ⟨a, vs, rfl, _, hH, _⟩ := r2.lst'; cases q2; obtain ⟨_, _, hl⟩ := lst_at hok hH; exact eqIn_b (EqAt.none_list hl hu0) rfl
    | tup ys => obtain ⟨a, vs, rfl, hH, _⟩ := r2.tup'; cases q2; obtain ⟨_, _, hl⟩ := tup_at hok hH; exact eqIn_b (EqAt.none_tuple hl hu0) rfl
    | _ => simp [comp] at hc
  | bl b1 =>
    cases RD.bl' r1
    cases q1
    cases d2 with
    | non => cases RD.non' r2; cases q2; exact eqIn_b (EqAt.bool_none _) rfl
    | bl b => cases RD.bl' r2; cases q2; exact eqIn_b (EqAt.bool_bool _ _) (by cases b1 <;> cases b <;> rfl)
    | int b => cases RD.int' r2; obtain ⟨t, rfl⟩ := q2; exact eqIn_b (EqAt.bool_int _ _ _) (by simp [deq, numD, BEq.beq])
    | str b => cases RD.str' r2; obtain ⟨t, rfl⟩ := q2; exact eqIn_b (EqAt.bool_str _ _ _) rfl
    | lst ys => obtain ⟨a, vs, rfl, _, hH, _⟩ := r2.lst'; cases q2; obtain ⟨_, _, hl⟩ := lst_at hok hH; exact eqIn_b (EqAt.bool_list _ hl hu0) rfl
    | tup ys => obtain ⟨a, vs, rfl, hH, _⟩ := r2.tup'; cases q2; obtain ⟨_, _, hl⟩ := tup_at hok hH; exact eqIn_b (EqAt.bool_tuple _ hl hu0) rfl
    | _ => simp [comp] at hc
  | int b1 =>
    cases RD.int' r1
    obtain ⟨t1, rfl⟩ := q1
    cases d2 with
    | non => cases RD.non' r2; cases q2; exact eqIn_b (EqAt.int_none _ _) rfl
    | bl b => cases RD.bl' r2; cases q2; exact eqIn_b (EqAt.int_bool _ _ _) (by simp [deq, numD, BEq.beq])
    | int b => cases RD.int' r2; obtain ⟨t, rfl⟩ := q2; exact eqIn_b (EqAt.int_int _ _ _ _) rfl
    | str b => cases RD.str' r2; obtain ⟨t, rfl⟩ := q2; exact eqIn_b (EqAt.int_str _ _ _ _) rfl
    | lst ys => obtain ⟨a, vs, rfl, _, hH, _⟩ := r2.lst'; cases q2; obtain ⟨_, _, hl⟩ := lst_at hok hH; exact eqIn_b (EqAt.int_list _ _ hl hu0) rfl
    | tup ys => obtain ⟨a, vs, rfl, hH, _⟩ := r2.tup'; cases q2; obtain ⟨_, _, hl⟩ := tup_at hok hH; exact eqIn_b (EqAt.int_tuple _ _ hl hu0) rfl
    | _ => simp [comp] at hc
  | str b1 =>
    cases RD.str' r1
    obtain ⟨t1, rfl⟩ := q1
    cases d2 with
    | non => cases RD.non' r2; cases q2; exact eqIn_b (EqAt.str_none _ _) rfl
    | bl b => cases RD.bl' r2; cases q2; exact eqIn_b (EqAt.str_bool _ _ _) rfl
    | int b => cases RD.int' r2; obtain ⟨t, rfl⟩ := q2; exact eqIn_b (EqAt.str_int _ _ _ _) rfl
    | str b => cases RD.str' r2; obtain ⟨t, rfl⟩ := q2; exact eqIn_b (EqAt.str_str _ _ _ _) (by rw [deq]; exact Bool.eq_iff_iff.mpr (by simp))
    | lst ys => obtain ⟨a, vs, rfl, _, hH, _⟩ := r2.lst'; cases q2; obtain ⟨_, _, hl⟩ := lst_at hok hH; exact eqIn_b (EqAt.str_list _ _ hl hu0) rfl
    | tup ys => obtain ⟨a, vs, rfl, hH, _⟩ := r2.tup'; cases q2; obtain ⟨_, _, hl⟩ := tup_at hok hH; exact eqIn_b (EqAt.str_tuple _ _ hl hu0) rfl
    | _ => simp [comp] at hc
  | lst xs =>
    obtain ⟨a, vs, rfl, hz, hH, h1⟩ := r1.lst'
    cases q1
    obtain ⟨is, qi, hl⟩ := lst_at hok hH
    cases d2 with
    | non => cases RD.non' r2; cases q2; exact eqIn_b (EqAt.list_none hl hu0) rfl
    | bl b => cases RD.bl' r2; cases q2; exact eqIn_b (EqAt.list_bool _ hl hu0) rfl
    | int b => cases RD.int' r2; obtain ⟨t, rfl⟩ := q2; exact eqIn_b (EqAt.list_int _ _ hl hu0) rfl
    | str b => cases RD.str' r2; obtain ⟨t, rfl⟩ := q2; exact eqIn_b (EqAt.list_str _ _ hl hu0) rfl
    | lst ys =>
      obtain ⟨a2, us, rfl, hz2, hH2, h2⟩ := r2.lst'
      cases q2
      obtain ⟨js, qj, hl2⟩ := lst_at hok hH2
      by_cases ha : a = a2
      · subst ha
        exact eqIn_b (EqAt.same _) (same_deq (hw ▸ hok) r1 r2 hc).symm
      · refine EqIn.of_refs ha fun E Q hq => ?_
        have l1 : is.length = xs.length := qi.length.symm.trans h1.len
        have l2 : js.length = ys.length := qj.length.symm.trans h2.len
        simp only [comp] at hc
        simp only [depD] at hd
        simp only [deq] at hq
        rw [deqs_all] at hq
        by_cases hll : xs.length = ys.length
        · refine rcIn_lists hl hl2 (by simp [l1, l2, hll]) hu0 (seq hd hc h1 h2 qi qj) ?_
          simpa [l1, l2, hll] using hq
        · refine RcAt.lists_lengths hl hl2 (by simp [l1, l2, hll]) hu0 prog w E Q ?_
          have : (xs.length == ys.length) = false := by simpa using hll
          rw [this, Bool.and_false] at hq
          exact hq
    | tup ys => obtain ⟨a2, us, rfl, hH2, _⟩ := r2.tup'; cases q2; obtain ⟨_, _, hl2⟩ := tup_at hok hH2; exact eqIn_b (EqAt.list_tuple hl hl2 hu0) rfl
    | _ => simp [comp] at hc
  | tup xs =>
    obtain ⟨a, vs, rfl, hH, h1⟩ := r1.tup'
    cases q1
    obtain ⟨is, qi, hl⟩ := tup_at hok hH
    cases d2 with
    | non => cases RD.non' r2; cases q2; exact eqIn_b (EqAt.tuple_none hl hu0) rfl
    | bl b => cases RD.bl' r2; cases q2; exact eqIn_b (EqAt.tuple_bool _ hl hu0) rfl
    | int b => cases RD.int' r2; obtain ⟨t, rfl⟩ := q2; exact eqIn_b (EqAt.tuple_int _ _ hl hu0) rfl
    | str b => cases RD.str' r2; obtain ⟨t, rfl⟩ := q2; exact eqIn_b (EqAt.tuple_str _ _ hl hu0) rfl
    | lst ys => obtain ⟨a2, us, rfl, _, hH2, _⟩ := r2.lst'; cases q2; obtain ⟨_, _, hl2⟩ := lst_at hok hH2; exact eqIn_b (EqAt.tuple_list hl hl2 hu0) rfl
    | tup ys =>
      obtain ⟨a2, us, rfl, hH2, h2⟩ := r2.tup'
      cases q2
      obtain ⟨js, qj, hl2⟩ := tup_at hok hH2
      by_cases ha : a = a2
      · subst ha
        exact eqIn_b (EqAt.same _) (same_deq (hw ▸ hok) r1 r2 hc).symm
      · refine EqIn.of_refs ha fun E Q hq => ?_
        have l1 : is.length = xs.length := qi.length.symm.trans h1.len
        have l2 : js.length = ys.length := qj.length.symm.trans h2.len
        simp only [comp] at hc
        simp only [depD] at hd
        simp only [deq] at hq
        rw [deqs_all] at hq
        refine rcIn_tuples hl hl2 hu0 (seq hd hc h1 h2 qi qj) ?_
        simpa [l1, l2] using hq
    | _ => simp [comp] at hc
  | dct xs =>
    cases d2 with
    | dct ys =>
      obtain ⟨a, oa, ya, rfl, rfl, hs1, g1, al1⟩ := dct_at hw hok r1 q1
      obtain ⟨b, ob, yb, rfl, rfl, hs2, g2, al2⟩ := dct_at hw hok r2 q2
      by_cases ha : a = b
      · subst ha
        exact eqIn_b (EqAt.same _) (same_deq (hw ▸ hok) r1 r2 hc).symm
      · refine EqIn.of_refs ha fun E Q hq => ?_
        simp only [comp] at hc
        simp only [depD] at hd
        have hh := in1_units (A := A)
        refine g_rc hs1 hs2 g1 g2 (by omega) (fun _ => hits_of (n := n - 1) hw al2 (fun d1 d2 v1 v2 u1 u2 e1 e2 e3 e4 e5 e6 => ih (n - 1) (by omega) A.in1 d1 d2 v1 v2 u1 u2 e1 e2 e3 e4 e5 e6 (by omega)) (by omega) hc al1) ?_
        rw [al1.len, al2.len]
        simpa [deq, BEq.beq] using hq
    | _ => simp [comp] at hc
  | _ => simp [comp] at hc
def RcIn (prog : Program) (w : World) (A : Around) (s : Shared) (u v : Value) (b : Bool) : Prop := ∀ (E : Value → Shared → Prop) (Q : Value → Shared → Prop), Q (.bool b) s → wpAny (model prog w) A (richCompare .Eq u v) Q E s
theorem rcIn_b {w : World} {u v : Value} {b b' : Bool} (h : RcAt A s u v b) (e : b = b') : RcIn prog w A s u v b' := by
  subst e
  exact fun E Q hq => h prog w E Q hq
theorem rcD {w : World} (hw : C.w = w) (hok : HOk prog w H s.heap) (n : Nat) (A : Around) (d1 d2 : D) (v1 v2 : V) (u1 u2 : Value) (hd : depD d1 ≤ n) (hc : comp d1 d2 = true) (r1 : RD C Z H d1 v1) (r2 : RD C Z H d2 v2) (q1 : RelV v1 u1) (q2 : RelV v2 u2) (hu : A.units + n + 10 < cLine) : RcIn prog w A s u1 u2 (deq d1 d2) := by
  have hu0 : A.units < cLine := by omega
  have seq : ∀ {xs ys : List D} {vs us : List V} {is js : List Value}, depDs xs + 1 ≤ n → comps xs ys = true → RDs C Z H xs vs → RDs C Z H ys us → Vals vs is → Vals us js → ∀ j (h1 : j < is.toArray.size) (h2 : j < js.toArray.size), EqIn prog w A.in1 s is.toArray[j] js.toArray[j] (eAt xs ys j) := by
    intro xs ys vs us is js hd hc r1 r2 q1 q2 j h1 h2
    have hh := in1_units (A := A)
    have := items_of (n := n - 1) (w := w) (A := A.in1) (Z2 := Z) (fun A d1 d2 v1 v2 u1 u2 => eqD hw hok (n - 1) A d1 d2 v1 v2 u1 u2) (by omega) hc r1 r2 q1 q2 (by omega) j (by simpa using h1) (by simpa using h2)
    simpa using this
  cases d1 with
  | non =>
    cases RD.non' r1
    cases q1
    cases d2 with
    | non => cases RD.non' r2; cases q2; exact rcIn_b RcAt.none_none rfl
    | bl b => cases RD.bl' r2; cases q2; exact rcIn_b (RcAt.none_bool _) rfl
    | int b => cases RD.int' r2; obtain ⟨t, rfl⟩ := q2; exact rcIn_b (RcAt.none_int _ _) rfl
    | str b => cases RD.str' r2; obtain ⟨t, rfl⟩ := q2; exact rcIn_b (RcAt.none_str _ _) rfl
    | lst ys => obtain ⟨a, vs, rfl, _, hH, _⟩ := r2.lst'; cases q2; obtain ⟨_, _, hl⟩ := lst_at hok hH; exact rcIn_b (RcAt.none_list hl hu0) rfl
    | tup ys => obtain ⟨a, vs, rfl, hH, _⟩ := r2.tup'; cases q2; obtain ⟨_, _, hl⟩ := tup_at hok hH; exact rcIn_b (RcAt.none_tuple hl hu0) rfl
    | _ => simp [comp] at hc
  | bl b1 =>
    cases RD.bl' r1
    cases q1
    cases d2 with
    | non => cases RD.non' r2; cases q2; exact rcIn_b (RcAt.bool_none _) rfl
    | bl b => cases RD.bl' r2; cases q2; exact rcIn_b (RcAt.bool_bool _ _) (by cases b1 <;> cases b <;> rfl)
    | int b => cases RD.int' r2; obtain ⟨t, rfl⟩ := q2; exact rcIn_b (RcAt.bool_int _ _ _) (by simp [deq, numD, BEq.beq])
    | str b => cases RD.str' r2; obtain ⟨t, rfl⟩ := q2; exact rcIn_b (RcAt.bool_str _ _ _) rfl
    | lst ys => obtain ⟨a, vs, rfl, _, hH, _⟩ := r2.lst'; cases q2; obtain ⟨_, _, hl⟩ := lst_at hok hH; exact rcIn_b (RcAt.bool_list _ hl hu0) rfl
    | tup ys => obtain ⟨a, vs, rfl, hH, _⟩ := r2.tup'; cases q2; obtain ⟨_, _, hl⟩ := tup_at hok hH; exact rcIn_b (RcAt.bool_tuple _ hl hu0) rfl
    | _ => simp [comp] at hc
  | int b1 =>
    cases RD.int' r1
    obtain ⟨t1, rfl⟩ := q1
    cases d2 with
    | non => cases RD.non' r2; cases q2; exact rcIn_b (RcAt.int_none _ _) rfl
    | bl b => cases RD.bl' r2; cases q2; exact rcIn_b (RcAt.int_bool _ _ _) (by simp [deq, numD, BEq.beq])
    | int b => cases RD.int' r2; obtain ⟨t, rfl⟩ := q2; exact rcIn_b (RcAt.int_int _ _ _ _) rfl
    | str b => cases RD.str' r2; obtain ⟨t, rfl⟩ := q2; exact rcIn_b (RcAt.int_str _ _ _ _) rfl
    | lst ys => obtain ⟨a, vs, rfl, _, hH, _⟩ := r2.lst'; cases q2; obtain ⟨_, _, hl⟩ := lst_at hok hH; exact rcIn_b (RcAt.int_list _ _ hl hu0) rfl
    | tup ys => obtain ⟨a, vs, rfl, hH, _⟩ := r2.tup'; cases q2; obtain ⟨_, _, hl⟩ := tup_at hok hH; exact rcIn_b (RcAt.int_tuple _ _ hl hu0) rfl
    | _ => simp [comp] at hc
  | str b1 =>
    cases RD.str' r1
    obtain ⟨t1, rfl⟩ := q1
    cases d2 with
    | non => cases RD.non' r2; cases q2; exact rcIn_b (RcAt.str_none _ _) rfl
    | bl b => cases RD.bl' r2; cases q2; exact rcIn_b (RcAt.str_bool _ _ _) rfl
    | int b => cases RD.int' r2; obtain ⟨t, rfl⟩ := q2; exact rcIn_b (RcAt.str_int _ _ _ _) rfl
    | str b => cases RD.str' r2; obtain ⟨t, rfl⟩ := q2; exact rcIn_b (RcAt.str_str _ _ _ _) (by rw [deq]; exact Bool.eq_iff_iff.mpr (by simp))
    | lst ys => obtain ⟨a, vs, rfl, _, hH, _⟩ := r2.lst'; cases q2; obtain ⟨_, _, hl⟩ := lst_at hok hH; exact rcIn_b (RcAt.str_list _ _ hl hu0) rfl
    | tup ys => obtain ⟨a, vs, rfl, hH, _⟩ := r2.tup'; cases q2; obtain ⟨_, _, hl⟩ := tup_at hok hH; exact rcIn_b (RcAt.str_tuple _ _ hl hu0) rfl
    | _ => simp [comp] at hc
  | lst xs =>
    obtain ⟨a, vs, rfl, hz, hH, h1⟩ := r1.lst'
    cases q1
    obtain ⟨is, qi, hl⟩ := lst_at hok hH
    cases d2 with
    | non => cases RD.non' r2; cases q2; exact rcIn_b (RcAt.list_none hl hu0) rfl
    | bl b => cases RD.bl' r2; cases q2; exact rcIn_b (RcAt.list_bool _ hl hu0) rfl
    | int b => cases RD.int' r2; obtain ⟨t, rfl⟩ := q2; exact rcIn_b (RcAt.list_int _ _ hl hu0) rfl
    | str b => cases RD.str' r2; obtain ⟨t, rfl⟩ := q2; exact rcIn_b (RcAt.list_str _ _ hl hu0) rfl
    | lst ys =>
      obtain ⟨a2, us, rfl, hz2, hH2, h2⟩ := r2.lst'
      cases q2
      obtain ⟨js, qj, hl2⟩ := lst_at hok hH2
      · refine fun E Q hq => ?_
        have l1 : is.length = xs.length := qi.length.symm.trans h1.len
        have l2 : js.length = ys.length := qj.length.symm.trans h2.len
        simp only [comp] at hc
        simp only [depD] at hd
        simp only [deq] at hq
        rw [deqs_all] at hq
        by_cases hll : xs.length = ys.length
        · refine rcIn_lists hl hl2 (by simp [l1, l2, hll]) hu0 (seq hd hc h1 h2 qi qj) ?_
          simpa [l1, l2, hll] using hq
        · refine RcAt.lists_lengths hl hl2 (by simp [l1, l2, hll]) hu0 prog w E Q ?_
          have : (xs.length == ys.length) = false := by simpa using hll
          rw [this, Bool.and_false] at hq
          exact hq
    | tup ys => obtain ⟨a2, us, rfl, hH2, _⟩ := r2.tup'; cases q2; obtain ⟨_, _, hl2⟩ := tup_at hok hH2; exact rcIn_b (RcAt.list_tuple hl hl2 hu0) rfl
    | _ => simp [comp] at hc
  | tup xs =>
    obtain ⟨a, vs, rfl, hH, h1⟩ := r1.tup'
    cases q1
    obtain ⟨is, qi, hl⟩ := tup_at hok hH
    cases d2 with
    | non => cases RD.non' r2; cases q2; exact rcIn_b (RcAt.tuple_none hl hu0) rfl
    | bl b => cases RD.bl' r2; cases q2; exact rcIn_b (RcAt.tuple_bool _ hl hu0) rfl
    | int b => cases RD.int' r2; obtain ⟨t, rfl⟩ := q2; exact rcIn_b (RcAt.tuple_int _ _ hl hu0) rfl
    | str b => cases RD.str' r2; obtain ⟨t, rfl⟩ := q2; exact rcIn_b (RcAt.tuple_str _ _ hl hu0) rfl
    | lst ys => obtain ⟨a2, us, rfl, _, hH2, _⟩ := r2.lst'; cases q2; obtain ⟨_, _, hl2⟩ := lst_at hok hH2; exact rcIn_b (RcAt.tuple_list hl hl2 hu0) rfl
    | tup ys =>
      obtain ⟨a2, us, rfl, hH2, h2⟩ := r2.tup'
      cases q2
      obtain ⟨js, qj, hl2⟩ := tup_at hok hH2
      · refine fun E Q hq => ?_
        have l1 : is.length = xs.length := qi.length.symm.trans h1.len
        have l2 : js.length = ys.length := qj.length.symm.trans h2.len
        simp only [comp] at hc
        simp only [depD] at hd
        simp only [deq] at hq
        rw [deqs_all] at hq
        refine rcIn_tuples hl hl2 hu0 (seq hd hc h1 h2 qi qj) ?_
        simpa [l1, l2] using hq
    | _ => simp [comp] at hc
  | dct xs =>
    cases d2 with
    | dct ys =>
      obtain ⟨a, oa, ya, rfl, rfl, hs1, g1, al1⟩ := dct_at hw hok r1 q1
      obtain ⟨b, ob, yb, rfl, rfl, hs2, g2, al2⟩ := dct_at hw hok r2 q2
      · refine fun E Q hq => ?_
        simp only [comp] at hc
        simp only [depD] at hd
        have hh := in1_units (A := A)
        refine g_rc hs1 hs2 g1 g2 (by omega) (fun _ => hits_of (n := n - 1) hw al2 (fun d1 d2 v1 v2 u1 u2 e1 e2 e3 e4 e5 e6 => eqD hw hok (n - 1) A.in1 d1 d2 v1 v2 u1 u2 e1 e2 e3 e4 e5 e6 (by omega)) (by omega) hc al1) ?_
        rw [al1.len, al2.len]
        simpa [deq, BEq.beq] using hq
    | _ => simp [comp] at hc
  | _ => simp [comp] at hc
end
end DS
/-! DS9d: != of data, run. -/
namespace DS
open PySem PySem.Spec PyProof.Rows L2 PySem.SeqAt
open PySem.AutoSeq1 (wpAny_loadPart')
open PySem.MeetsSeq PySem.MeetsSeq2 PySem.MeetsSeq3 PySem.SeqRoads2
section
variable {prog : Program} {w : World} {A : Around} {E : Value → Shared → Prop} {s : Shared}
abbrev LO (c : String) (dd : Option Addr) (xs : Array Value) (n : Nat) (sl : Array (Option Value)) : Obj := { cls := .type c, dict := dd, data := .seq xs n, slots := sl }
theorem ne_turns (p q : Addr) (xs ys : Array Value) (n m : Nat) (dp dq : Option Addr) (sp sq : Array (Option Value)) (hs : xs.size = ys.size) (f : Nat → Bool) (k : Nat) :
    ∀ i : Nat, xs.size - i = k → MeetsIn prog w (Builtin.«list.__eq__.loop» ⟨[.ref p, .ref q, rawInt i, rawInt 3], []⟩)
      (fun A R s => s.heap.get? p = some (LO "list" dp xs n sp) ∧ s.heap.get? q = some (LO "list" dq ys m sq) ∧
        (∀ j (h1 : j < xs.size) (h2 : j < ys.size), EqIn prog w A.in1 s xs[j] ys[j] (f j)) ∧ R (.ok (.ret (.bool (!((List.range xs.size).drop i).all f)))) s) := by
  induction k with
  | zero =>
    intro i hk A R s hyp
    obtain ⟨hp, g, d, tk, os⟩ := s; obtain ⟨gp, gq, he, fin⟩ := hyp
    wp_walk using wpAny_loadPart' gp, wpAny_loadPart' gq
    have x0 : xs[((i : Nat) : Int).toNat]? = none := by simp; omega
    have y0 : ys[((i : Nat) : Int).toNat]? = none := by simp; omega
    have d0 : (List.range xs.size).drop i = [] := by simp; omega
    rw [d0] at fin
    rw [x0, y0]
    wp_walk using wpAny_loadPart' gp, wpAny_loadPart' gq
    show R (.ok (.ret (.bool (xs.size != ys.size)))) _
    rw [hs]
    simpa using fin
  | succ k ih =>
    intro i hk A R s hyp
    obtain ⟨hp, g, d, tk, os⟩ := s; obtain ⟨gp, gq, he, fin⟩ := hyp
    wp_walk using wpAny_loadPart' gp, wpAny_loadPart' gq
    have li : i < xs.size := by omega
    have li2 : i < ys.size := by omega
    have xi : xs[((i : Nat) : Int).toNat]? = some xs[i] := by simp [li]
    have yi : ys[((i : Nat) : Int).toNat]? = some ys[i] := by simp [li2]
    have di : (List.range xs.size).drop i = i :: (List.range xs.size).drop (i + 1) := by simp [List.drop_eq_getElem_cons, li]
    have ci : ((i : Int) + 1) = ((i + 1 : Nat) : Int) := by push_cast; rfl
    rw [di, List.all_cons] at fin
    rw [xi, yi]
    refine wpAny_bind (he i li li2 _ _ ?_)
    cases ef : f i with
    | true =>
      rw [ef] at fin
      wp_walk
      rw [ci]
      refine ⟨plainId_quiet plain_eq_loop _, codeAny_builtin entry_eq_loop ?_⟩
      rw [Around.under_plainId plain_eq_loop _]
      exact ih (i + 1) (by omega) A R _ ⟨gp, gq, he, by simpa using fin⟩
    | false =>
      rw [ef] at fin
      wp_walk using wpAny_loadPart' gp, wpAny_loadPart' gq
      rw [xi, yi]
      wp_walk
      simpa using fin
theorem ne_lists (p q : Addr) (xs ys : Array Value) (n m : Nat) (dp dq : Option Addr) (sp sq : Array (Option Value)) (hs : xs.size = ys.size) (f : Nat → Bool) :
    MeetsIn prog w (Builtin.«list.__ne__» ⟨[.ref p, .ref q], []⟩)
      (fun A R s => s.heap.get? p = some (LO "list" dp xs n sp) ∧ s.heap.get? q = some (LO "list" dq ys m sq) ∧
        (∀ j (h1 : j < xs.size) (h2 : j < ys.size), EqIn prog w A.in1 s xs[j] ys[j] (f j)) ∧ R (.ok (.ret (.bool (!(List.range xs.size).all f)))) s) := by
  intro A R s hyp
  obtain ⟨hp, g, d, tk, os⟩ := s; obtain ⟨gp, gq, he, fin⟩ := hyp
  have f3 := AutoSeq1.sub_list_list
  have hne : ¬ (xs.size != ys.size) = true := by simp [hs]
  wp_walk using wpAny_loadPart' gp, wpAny_loadPart' gq
  refine ⟨plainId_quiet plain_eq_loop _, codeAny_builtin entry_eq_loop ?_⟩
  rw [Around.under_plainId plain_eq_loop _]
  exact ne_turns p q xs ys n m dp dq sp sq hs f _ 0 rfl A R _ ⟨gp, gq, he, by simpa using fin⟩
theorem ne_tups (p q : Addr) (xs ys : Array Value) (n m : Nat) (dp dq : Option Addr) (sp sq : Array (Option Value)) (f : Nat → Bool) :
    MeetsIn prog w (Builtin.«tuple.__ne__» ⟨[.ref p, .ref q], []⟩)
      (fun A R s => s.heap.get? p = some (LO "tuple" dp xs n sp) ∧ s.heap.get? q = some (LO "tuple" dq ys m sq) ∧
        (∀ j (h1 : j < xs.size) (h2 : j < ys.size), EqIn prog w A.in1 s xs[j] ys[j] (f j)) ∧ R (.ok (.ret (.bool (!((List.range (min xs.size ys.size)).all f && xs.size == ys.size))))) s) :=
  .of_wp fun A R s hyp => by
    obtain ⟨hp, g, d, tk, os⟩ := s; obtain ⟨gp, gq, he, fin⟩ := hyp
    have f2 := AutoSeq1.sub_tuple_tuple
    have zl : (xs.toList.zip ys.toList).length = min xs.size ys.size := by simp
    wp_walk using wpAny_loadPart' gp, wpAny_loadPart' gq, wpAny_forIn_list _ (fun rest b s' => b.1 = none ∧ s' = ⟨hp, g, d, tk, os⟩ ∧ ∃ i, rest = (xs.toList.zip ys.toList).drop i ∧
      R (.ok (.ret (.bool (!(((List.range (min xs.size ys.size)).drop i).all f && xs.size == ys.size))))) ⟨hp, g, d, tk, os⟩) _
    case turn =>
      rintro ⟨u, v⟩ rest b s' ⟨nb, rfl, i, zi, fi⟩
      have lz : i < (xs.toList.zip ys.toList).length := by
        rcases Nat.lt_or_ge i (xs.toList.zip ys.toList).length with c | c
        · exact c
        · rw [List.drop_of_length_le c] at zi; cases zi
      have lm : i < min xs.size ys.size := zl ▸ lz
      have l1 : i < xs.size := Nat.lt_of_lt_of_le lm (Nat.min_le_left _ _)
      have l2 : i < ys.size := Nat.lt_of_lt_of_le lm (Nat.min_le_right _ _)
      rw [List.drop_eq_getElem_cons lz] at zi
      injection zi with euv er
      have eu : u = xs[i] := by simpa using congrArg Prod.fst euv
      have ev : v = ys[i] := by simpa using congrArg Prod.snd euv
      subst eu ev
      have di : (List.range (min xs.size ys.size)).drop i = i :: (List.range (min xs.size ys.size)).drop (i + 1) := by simp [List.drop_eq_getElem_cons, lm]
      rw [di, List.all_cons] at fi
      refine wpAny_bind (he i l1 l2 _ _ ?_)
      cases ef : f i with
      | true =>
        rw [ef] at fi
        wp_walk
        exact ⟨rfl, rfl, i + 1, er, by simpa using fi⟩
      | false =>
        rw [ef] at fi
        wp_walk
        exact ⟨_, rfl, by simpa using fi⟩
    case fin =>
      rintro ⟨b1, b2⟩ s' ⟨nb, rfl, i, zi, fi⟩
      simp only at nb
      subst nb
      have ge : min xs.size ys.size ≤ i := by
        rcases Nat.lt_or_ge i (xs.toList.zip ys.toList).length with c | c
        · rw [List.drop_eq_getElem_cons c] at zi; cases zi
        · exact zl ▸ c
      rw [List.drop_of_length_le (by simpa using ge)] at fi
      wp_walk
      exact ⟨_, rfl, by simpa [Builtin.Tuple.tupleCompareSizes, bne] using fi⟩
    case h =>
      exact ⟨rfl, rfl, 0, rfl, by simpa using fin⟩
theorem rnIn_lists {p q : Addr} {xs ys : Array Value} {f : Nat → Bool} {Q : Value → Shared → Prop} (hp : s.heap.IsList p xs) (hq : s.heap.IsList q ys) (hs : xs.size = ys.size) (hu : A.units < cLine)
    (he : ∀ j (h1 : j < xs.size) (h2 : j < ys.size), EqIn prog w A.in1 s xs[j] ys[j] (f j)) (fin : Q (.bool (!(List.range xs.size).all f)) s) : wpAny (model prog w) A (richCompare .NotEq (.ref p) (.ref q)) Q E s := by
  obtain ⟨⟨c1, dp, t1, sp⟩, g1, e1, n, e2⟩ := id hp
  obtain ⟨⟨c2, dq, t2, sq⟩, g2, e3, m, e4⟩ := id hq
  simp only at e1 e2 e3 e4
  subst e1 e2 e3 e4
  refine wpAny_richCompare_same_room (T := "list") (op := .NotEq) ⟨_, g1, rfl⟩ ⟨_, g2, rfl⟩ F.slot_list_ne (call_meetsIn F.slot_list_ne ⟨_, g1, rfl⟩ F.entry_list_ne (F.args_list_ne_2 _ _) (ne_lists p q xs ys n m dp dq sp sq hs f) ⟨g1, g2, he, ?_⟩) hu
  exact ⟨(fun x => nomatch x : Value.bool _ ≠ Value.notImplemented), fin⟩
theorem rnIn_tuples {p q : Addr} {xs ys : Array Value} {f : Nat → Bool} {Q : Value → Shared → Prop} (hp : s.heap.IsTuple p xs) (hq : s.heap.IsTuple q ys) (hu : A.units < cLine)
    (he : ∀ j (h1 : j < xs.size) (h2 : j < ys.size), EqIn prog w A.in1 s xs[j] ys[j] (f j)) (fin : Q (.bool (!((List.range (min xs.size ys.size)).all f && xs.size == ys.size))) s) : wpAny (model prog w) A (richCompare .NotEq (.ref p) (.ref q)) Q E s := by
  obtain ⟨⟨c1, dp, t1, sp⟩, g1, e1, n, e2⟩ := id hp
  obtain ⟨⟨c2, dq, t2, sq⟩, g2, e3, m, e4⟩ := id hq
  simp only at e1 e2 e3 e4
  subst e1 e2 e3 e4
  refine wpAny_richCompare_same_room (T := "tuple") (op := .NotEq) ⟨_, g1, rfl⟩ ⟨_, g2, rfl⟩ F.slot_tuple_ne (call_meetsIn F.slot_tuple_ne ⟨_, g1, rfl⟩ F.entry_tuple_ne (F.args_tuple_ne_2 _ _) (ne_tups p q xs ys n m dp dq sp sq f) ⟨g1, g2, he, ?_⟩) hu
  exact ⟨(fun x => nomatch x : Value.bool _ ≠ Value.notImplemented), fin⟩
theorem g_rn {a b : Addr} {oa ob : Obj} {ya yb : List En} {r : Bool} {Q : Value → Shared → Prop} (ha : (a == sysModules) = false) (hb : (b == sysModules) = false) (ga : GD w s.heap a oa ya) (gb : GD w s.heap b ob yb) (hu : A.units + 9 < cLine)
    (hits : ya.length = yb.length → Hits prog w A.in1 s yb ya r) (h : Q (.bool (!(ya.length == yb.length && r))) s) : wpAny (model prog w) A (richCompare .NotEq (.ref a) (.ref b)) Q E s := by
  have h1 := in1_units (A := A)
  refine wpAny_richCompare_same_room (op := .NotEq) ga.ty gb.ty PySem.F.slot_dict_ne (wpAny_call_entry PySem.F.slot_dict_ne ga.ty PySem.F.entry_dict_ne ?_ (PySem.F.args_dict_ne_2 _ _)) (by omega)
  show wpAny _ _ (Builtin.Dict.dictSlotArgs "__ne__" ⟨[.ref a, .ref b], []⟩ >>= _) _ _ s
  unfold Builtin.Dict.dictSlotArgs
  refine wpAny_bind (wpAny_bind (wpAny_notOrdered_dict ga.ty (show wpAny _ _ (pure (Value.ref a, Value.ref b)) _ _ s from wpAny_pure ?_)))
  refine wpAny_bind (wpAny_isInstance (T := "dict") gb.ty PySem.F.sub_dict_dict ?_)
  simp only [Bool.not_true, Bool.false_eq_true, if_false]
  refine wpAny_bind (wpAny_pure (wpAny_bind (wpAny_pure (wpAny_bind (g_same ha hb ga gb (by omega) hits (wpAny_pure ⟨_, rfl, ?_, ?_⟩))))))
  · exact fun x => nomatch x
  · simpa using h
end
section
variable {prog : Program} {A : Around} {E : Value → Shared → Prop} {s : Shared} {C : Kx} {Z Z2 : Addr → Prop} {H : Hp}
def RnIn (prog : Program) (w : World) (A : Around) (s : Shared) (u v : Value) (b : Bool) : Prop := ∀ (E : Value → Shared → Prop) (Q : Value → Shared → Prop), Q (.bool b) s → wpAny (model prog w) A (richCompare .NotEq u v) Q E s
theorem rnIn_b {w : World} {u v : Value} {b b' : Bool} (h : RcNeAt A s u v b) (e : b = b') : RnIn prog w A s u v b' := by
  subst e
  exact fun E Q hq => h prog w E Q hq
theorem rnD {w : World} (hw : C.w = w) (hok : HOk prog w H s.heap) (n : Nat) (A : Around) (d1 d2 : D) (v1 v2 : V) (u1 u2 : Value) (hd : depD d1 ≤ n) (hc : comp d1 d2 = true) (r1 : RD C Z H d1 v1) (r2 : RD C Z H d2 v2) (q1 : RelV v1 u1) (q2 : RelV v2 u2) (hu : A.units + n + 10 < cLine) : RnIn prog w A s u1 u2 (!deq d1 d2) := by
  have hu0 : A.units < cLine := by omega
  have seq : ∀ {xs ys : List D} {vs us : List V} {is js : List Value}, depDs xs + 1 ≤ n → comps xs ys = true → RDs C Z H xs vs → RDs C Z H ys us → Vals vs is → Vals us js → ∀ j (h1 : j < is.toArray.size) (h2 : j < js.toArray.size), EqIn prog w A.in1 s is.toArray[j] js.toArray[j] (eAt xs ys j) := by
    intro xs ys vs us is js hd hc r1 r2 q1 q2 j h1 h2
    have hh := in1_units (A := A)
    have := items_of (n := n - 1) (w := w) (A := A.in1) (Z2 := Z) (fun A d1 d2 v1 v2 u1 u2 => eqD hw hok (n - 1) A d1 d2 v1 v2 u1 u2) (by omega) hc r1 r2 q1 q2 (by omega) j (by simpa using h1) (by simpa using h2)
    simpa using this
  cases d1 with
  | non =>
    cases RD.non' r1
    cases q1
    cases d2 with
    | non => cases RD.non' r2; cases q2; exact rnIn_b RcNeAt.none_none rfl
    | bl b => cases RD.bl' r2; cases q2; exact rnIn_b (RcNeAt.none_bool _) rfl
    | int b => cases RD.int' r2; obtain ⟨t, rfl⟩ := q2; exact rnIn_b (RcNeAt.none_int _ _) rfl
    | str b => cases RD.str' r2; obtain ⟨t, rfl⟩ := q2; exact rnIn_b (RcNeAt.none_str _ _) rfl
    | lst ys => obtain ⟨a, vs, rfl, _, hH, _⟩ := r2.lst'; cases q2; obtain ⟨_, _, hl⟩ := lst_at hok hH; exact rnIn_b (RcNeAt.none_list hl hu0) rfl
    | tup ys => obtain ⟨a, vs, rfl, hH, _⟩ := r2.tup'; cases q2; obtain ⟨_, _, hl⟩ := tup_at hok hH; exact rnIn_b (RcNeAt.none_tuple hl hu0) rfl
    | _ => simp [comp] at hc
  | bl b1 =>
    cases RD.bl' r1
    cases q1
    cases d2 with
    | non => cases RD.non' r2; cases q2; exact rnIn_b (RcNeAt.bool_none _) rfl
    | bl b => cases RD.bl' r2; cases q2; exact rnIn_b (RcNeAt.bool_bool _ _) (by cases b1 <;> cases b <;> rfl)
    | int b => cases RD.int' r2; obtain ⟨t, rfl⟩ := q2; exact rnIn_b (RcNeAt.bool_int _ _ _) (by rw [Bool.not_eq_eq_eq_not, Bool.not_not]; simp [deq, numD, BEq.beq])
    | str b => cases RD.str' r2; obtain ⟨t, rfl⟩ := q2; exact rnIn_b (RcNeAt.bool_str _ _ _) rfl
    | lst ys => obtain ⟨a, vs, rfl, _, hH, _⟩ := r2.lst'; cases q2; obtain ⟨_, _, hl⟩ := lst_at hok hH; exact rnIn_b (RcNeAt.bool_list _ hl hu0) rfl
    | tup ys => obtain ⟨a, vs, rfl, hH, _⟩ := r2.tup'; cases q2; obtain ⟨_, _, hl⟩ := tup_at hok hH; exact rnIn_b (RcNeAt.bool_tuple _ hl hu0) rfl
    | _ => simp [comp] at hc
  | int b1 =>
    cases RD.int' r1
    obtain ⟨t1, rfl⟩ := q1
    cases d2 with
    | non => cases RD.non' r2; cases q2; exact rnIn_b (RcNeAt.int_none _ _) rfl
    | bl b => cases RD.bl' r2; cases q2; exact rnIn_b (RcNeAt.int_bool _ _ _) (by rw [Bool.not_eq_eq_eq_not, Bool.not_not]; simp [deq, numD, BEq.beq])
    | int b => cases RD.int' r2; obtain ⟨t, rfl⟩ := q2; exact rnIn_b (RcNeAt.int_int _ _ _ _) rfl
    | str b => cases RD.str' r2; obtain ⟨t, rfl⟩ := q2; exact rnIn_b (RcNeAt.int_str _ _ _ _) rfl
    | lst ys => obtain ⟨a, vs, rfl, _, hH, _⟩ := r2.lst'; cases q2; obtain ⟨_, _, hl⟩ := lst_at hok hH; exact rnIn_b (RcNeAt.int_list _ _ hl hu0) rfl
    | tup ys => obtain ⟨a, vs, rfl, hH, _⟩ := r2.tup'; cases q2; obtain ⟨_, _, hl⟩ := tup_at hok hH; exact rnIn_b (RcNeAt.int_tuple _ _ hl hu0) rfl
    | _ => simp [comp] at hc
  | str b1 =>
    cases RD.str' r1
    obtain ⟨t1, rfl⟩ := q1
    cases d2 with
    | non => cases RD.non' r2; cases q2; exact rnIn_b (RcNeAt.str_none _ _) rfl
    | bl b => cases RD.bl' r2; cases q2; exact rnIn_b (RcNeAt.str_bool _ _ _) rfl
    | int b => cases RD.int' r2; obtain ⟨t, rfl⟩ := q2; exact rnIn_b (RcNeAt.str_int _ _ _ _) rfl
    | str b => cases RD.str' r2; obtain ⟨t, rfl⟩ := q2; exact rnIn_b (RcNeAt.str_str _ _ _ _) (by rw [deq]; exact Bool.eq_iff_iff.mpr (by simp))
    | lst ys => obtain ⟨a, vs, rfl, _, hH, _⟩ := r2.lst'; cases q2; obtain ⟨_, _, hl⟩ := lst_at hok hH; exact rnIn_b (RcNeAt.str_list _ _ hl hu0) rfl
    | tup ys => obtain ⟨a, vs, rfl, hH, _⟩ := r2.tup'; cases q2; obtain ⟨_, _, hl⟩ := tup_at hok hH; exact rnIn_b (RcNeAt.str_tuple _ _ hl hu0) rfl
    | _ => simp [comp] at hc
  | lst xs =>
    obtain ⟨a, vs, rfl, hz, hH, h1⟩ := r1.lst'
    cases q1
    obtain ⟨is, qi, hl⟩ := lst_at hok hH
    cases d2 with
    | non => cases RD.non' r2; cases q2; exact rnIn_b (RcNeAt.list_none hl hu0) rfl
    | bl b => cases RD.bl' r2; cases q2; exact rnIn_b (RcNeAt.list_bool _ hl hu0) rfl
    | int b => cases RD.int' r2; obtain ⟨t, rfl⟩ := q2; exact rnIn_b (RcNeAt.list_int _ _ hl hu0) rfl
    | str b => cases RD.str' r2; obtain ⟨t, rfl⟩ := q2; exact rnIn_b (RcNeAt.list_str _ _ hl hu0) rfl
    | lst ys =>
      obtain ⟨a2, us, rfl, hz2, hH2, h2⟩ := r2.lst'
      cases q2
      obtain ⟨js, qj, hl2⟩ := lst_at hok hH2
      · refine fun E Q hq => ?_
        have l1 : is.length = xs.length := qi.length.symm.trans h1.len
        have l2 : js.length = ys.length := qj.length.symm.trans h2.len
        simp only [comp] at hc
        simp only [depD] at hd
        simp only [deq] at hq
        rw [deqs_all] at hq
        by_cases hll : xs.length = ys.length
        · refine rnIn_lists hl hl2 (by simp [l1, l2, hll]) hu0 (seq hd hc h1 h2 qi qj) ?_
          simpa [l1, l2, hll] using hq
        · refine RcNeAt.lists_lengths hl hl2 (by simp [l1, l2, hll]) hu0 prog w E Q ?_
          have : (xs.length == ys.length) = false := by simpa using hll
          rw [this, Bool.and_false, Bool.not_false] at hq
          exact hq
    | tup ys => obtain ⟨a2, us, rfl, hH2, _⟩ := r2.tup'; cases q2; obtain ⟨_, _, hl2⟩ := tup_at hok hH2; exact rnIn_b (RcNeAt.list_tuple hl hl2 hu0) rfl
    | _ => simp [comp] at hc
  | tup xs =>
    obtain ⟨a, vs, rfl, hH, h1⟩ := r1.tup'
    cases q1
    obtain ⟨is, qi, hl⟩ := tup_at hok hH
    cases d2 with
    | non => cases RD.non' r2; cases q2; exact rnIn_b (RcNeAt.tuple_none hl hu0) rfl
    | bl b => cases RD.bl' r2; cases q2; exact rnIn_b (RcNeAt.tuple_bool _ hl hu0) rfl
    | int b => cases RD.int' r2; obtain ⟨t, rfl⟩ := q2; exact rnIn_b (RcNeAt.tuple_int _ _ hl hu0) rfl
    | str b => cases RD.str' r2; obtain ⟨t, rfl⟩ := q2; exact rnIn_b (RcNeAt.tuple_str _ _ hl hu0) rfl
    | lst ys => obtain ⟨a2, us, rfl, _, hH2, _⟩ := r2.lst'; cases q2; obtain ⟨_, _, hl2⟩ := lst_at hok hH2; exact rnIn_b (RcNeAt.tuple_list hl hl2 hu0) rfl
    | tup ys =>
      obtain ⟨a2, us, rfl, hH2, h2⟩ := r2.tup'
      cases q2
      obtain ⟨js, qj, hl2⟩ := tup_at hok hH2
      · refine fun E Q hq => ?_
        have l1 : is.length = xs.length := qi.length.symm.trans h1.len
        have l2 : js.length = ys.length := qj.length.symm.trans h2.len
        simp only [comp] at hc
        simp only [depD] at hd
        simp only [deq] at hq
        rw [deqs_all] at hq
        refine rnIn_tuples hl hl2 hu0 (seq hd hc h1 h2 qi qj) ?_
        simpa [l1, l2] using hq
    | _ => simp [comp] at hc
  | dct xs =>
    cases d2 with
    | dct ys =>
      obtain ⟨a, oa, ya, rfl, rfl, hs1, g1, al1⟩ := dct_at hw hok r1 q1
      obtain ⟨b, ob, yb, rfl, rfl, hs2, g2, al2⟩ := dct_at hw hok r2 q2
      · refine fun E Q hq => ?_
        simp only [comp] at hc
        simp only [depD] at hd
        have hh := in1_units (A := A)
        refine g_rn hs1 hs2 g1 g2 (by omega) (fun _ => hits_of (n := n - 1) hw al2 (fun d1 d2 v1 v2 u1 u2 e1 e2 e3 e4 e5 e6 => eqD hw hok (n - 1) A.in1 d1 d2 v1 v2 u1 u2 e1 e2 e3 e4 e5 e6 (by omega)) (by omega) hc al1) ?_
        rw [al1.len, al2.len]
        simpa [deq, BEq.beq] using hq
    | _ => simp [comp] at hc
  | _ => simp [comp] at hc
end
end DS
/-! DS9e: in. -/
namespace DS
open PySem PySem.Spec PyProof.Rows L2 PySem.SeqAt
open PySem.AutoSeq1 (wpAny_loadPart')
open PySem.MeetsSeq PySem.MeetsSeq2 PySem.MeetsSeq3 PySem.SeqRoads2
section
variable {prog : Program} {w : World} {A : Around} {E : Value → Shared → Prop} {s : Shared}
/-- one of the items from i on -/
def anyF (f : Nat → Bool) (n i : Nat) : Bool := ((List.range n).drop i).any f
theorem anyF_end {f : Nat → Bool} {n i : Nat} (h : n ≤ i) : anyF f n i = false := by
  unfold anyF
  rw [List.drop_of_length_le (by simpa using h)]
  rfl
theorem anyF_step {f : Nat → Bool} {n i : Nat} (h : i < n) : anyF f n i = (f i || anyF f n (i + 1)) := by
  unfold anyF
  rw [List.drop_eq_getElem_cons (by simpa using h), List.any_cons]
  simp
theorem has_turns (p : Addr) (xs : Array Value) (n : Nat) (dp : Option Addr) (sp : Array (Option Value)) (x : Value) (f : Nat → Bool) (k : Nat) :
    ∀ i : Nat, xs.size - i = k → MeetsIn prog w (Builtin.«list.__contains__.loop» ⟨[.ref p, x, rawInt i], []⟩)
      (fun A R s => s.heap.get? p = some (LO "list" dp xs n sp) ∧ (∀ j (h1 : j < xs.size), EqIn prog w A.in1 s xs[j] x (f j)) ∧ R (.ok (.ret (.bool (anyF f xs.size i)))) s) := by
  induction k with
  | zero =>
    intro i hk A R s hyp
    obtain ⟨hp, g, d, tk, os⟩ := s; obtain ⟨gp, he, fin⟩ := hyp
    wp_walk using wpAny_loadPart' gp
    have x0 : xs[((i : Nat) : Int).toNat]? = none := by simp; omega
    rw [anyF_end (by omega)] at fin
    rw [x0]
    wp_walk
    exact fin
  | succ k ih =>
    intro i hk A R s hyp
    obtain ⟨hp, g, d, tk, os⟩ := s; obtain ⟨gp, he, fin⟩ := hyp
    wp_walk using wpAny_loadPart' gp
    have li : i < xs.size := by omega
    have xi : xs[((i : Nat) : Int).toNat]? = some xs[i] := by simp [li]
    rw [anyF_step li] at fin
    rw [xi]
    refine wpAny_bind (he i li _ _ ?_)
    cases ef : f i with
    | true =>
      rw [ef] at fin
      wp_walk
      exact fin
    | false =>
      rw [ef] at fin
      have ci : ((i : Int) + 1) = ((i + 1 : Nat) : Int) := by push_cast; rfl
      wp_walk
      rw [ci]
      refine ⟨plainId_quiet plain_contains_loop _, codeAny_builtin entry_contains_loop ?_⟩
      rw [Around.under_plainId plain_contains_loop _]
      exact ih (i + 1) (by omega) A R _ ⟨gp, he, by simpa using fin⟩
theorem has_lists (p : Addr) (xs : Array Value) (n : Nat) (dp : Option Addr) (sp : Array (Option Value)) (x : Value) (f : Nat → Bool) :
    MeetsIn prog w (Builtin.«list.__contains__» ⟨[.ref p, x], []⟩)
      (fun A R s => s.heap.get? p = some (LO "list" dp xs n sp) ∧ (∀ j (h1 : j < xs.size), EqIn prog w A.in1 s xs[j] x (f j)) ∧ R (.ok (.ret (.bool (anyF f xs.size 0)))) s) := by
  intro A R s hyp
  obtain ⟨hp, g, d, tk, os⟩ := s; obtain ⟨gp, he, fin⟩ := hyp
  wp_walk using wpAny_loadPart' gp
  refine ⟨plainId_quiet plain_contains_loop _, codeAny_builtin entry_contains_loop ?_⟩
  rw [Around.under_plainId plain_contains_loop _]
  exact has_turns p xs n dp sp x f _ 0 rfl A R _ ⟨gp, he, fin⟩
theorem has_tups (p : Addr) (xs : Array Value) (n : Nat) (dp : Option Addr) (sp : Array (Option Value)) (x : Value) (f : Nat → Bool) :
    MeetsIn prog w (Builtin.«tuple.__contains__» ⟨[.ref p, x], []⟩)
      (fun A R s => s.heap.get? p = some (LO "tuple" dp xs n sp) ∧ (∀ j (h1 : j < xs.size), EqIn prog w A.in1 s xs[j] x (f j)) ∧ R (.ok (.ret (.bool (anyF f xs.size 0)))) s) :=
  .of_wp fun A R s hyp => by
    obtain ⟨hp, g, d, tk, os⟩ := s; obtain ⟨gp, he, fin⟩ := hyp
    wp_walk using wpAny_loadPart' gp, wpAny_forIn_array _ (fun rest b s' => b.1 = none ∧ s' = ⟨hp, g, d, tk, os⟩ ∧ ∃ i, rest = xs.toList.drop i ∧ R (.ok (.ret (.bool (anyF f xs.size i)))) ⟨hp, g, d, tk, os⟩) _
    case turn =>
      rintro y rest b s' ⟨nb, rfl, i, er, fi⟩
      have li : i < xs.toList.length := by
        rcases Nat.lt_or_ge i xs.toList.length with c | c
        · exact c
        · rw [List.drop_of_length_le c] at er; cases er
      rw [List.drop_eq_getElem_cons li] at er
      injection er with ey er
      have l1 : i < xs.size := by simpa using li
      have ey : y = xs[i] := by simpa using ey
      subst ey
      rw [anyF_step l1] at fi
      refine wpAny_bind (he i l1 _ _ ?_)
      cases ef : f i with
      | true =>
        rw [ef] at fi
        wp_walk
        exact ⟨_, rfl, by simpa using fi⟩
      | false =>
        rw [ef] at fi
        wp_walk
        exact ⟨rfl, rfl, i + 1, er, by simpa using fi⟩
    case fin =>
      rintro ⟨b1, b2⟩ s' ⟨nb, rfl, i, er, fi⟩
      simp only at nb
      subst nb
      have ge : xs.size ≤ i := by simpa using er.symm
      rw [anyF_end ge] at fi
      wp_walk
      exact ⟨_, rfl, by simpa using fi⟩
    case h =>
      exact ⟨rfl, rfl, 0, rfl, by simpa using fin⟩
theorem has_lst {p : Addr} {xs : Array Value} {x : Value} {f : Nat → Bool} {Q : Bool → Shared → Prop} (hp : s.heap.IsList p xs) (he : ∀ j (h1 : j < xs.size), EqIn prog w A.in1 s xs[j] x (f j)) (fin : Q (anyF f xs.size 0) s) : wpAny (model prog w) A (contains (.ref p) x) Q E s := by
  obtain ⟨⟨c1, dp, t1, sp⟩, g1, e1, n, e2⟩ := id hp
  simp only at e1 e2
  subst e1 e2
  exact wpAny_contains_slot (T := "list") ⟨_, g1, rfl⟩ F.slot_list_contains (call_meetsIn F.slot_list_contains ⟨_, g1, rfl⟩ F.entry_list_contains (F.args_list_contains_2 _ _) (has_lists p xs n dp sp x f) ⟨g1, he, wpAny_truthy_bool fin⟩)
theorem has_tup {p : Addr} {xs : Array Value} {x : Value} {f : Nat → Bool} {Q : Bool → Shared → Prop} (hp : s.heap.IsTuple p xs) (he : ∀ j (h1 : j < xs.size), EqIn prog w A.in1 s xs[j] x (f j)) (fin : Q (anyF f xs.size 0) s) : wpAny (model prog w) A (contains (.ref p) x) Q E s := by
  obtain ⟨⟨c1, dp, t1, sp⟩, g1, e1, n, e2⟩ := id hp
  simp only at e1 e2
  subst e1 e2
  exact wpAny_contains_slot (T := "tuple") ⟨_, g1, rfl⟩ F.slot_tuple_contains (call_meetsIn F.slot_tuple_contains ⟨_, g1, rfl⟩ F.entry_tuple_contains (F.args_tuple_contains_2 _ _) (has_tups p xs n dp sp x f) ⟨g1, he, wpAny_truthy_bool fin⟩)
end
end DS
/-! DS8: truth, control within expressions. -/
namespace DS
open PySem PySem.Spec PyProof.Rows L2
theorem truV_of {C : Kx} {Z : Addr → Prop} {H : Hp} {d : D} {v : V} {k : Bool} (r : RD C Z H d v) (e : truD d = some k) : TruV C.K v H k ∨ ∃ a kvs, v = .ref a ∧ DicAt C Z H a kvs ∧ k = !kvs.isEmpty := by
  cases d with
  | non => rw [RD.non' r]; simp only [truD, Option.some.injEq] at e; exact .inl e.symm
  | bl b => rw [RD.bl' r]; simp only [truD, Option.some.injEq] at e; exact .inl e.symm
  | int i => rw [RD.int' r]; simp only [truD, Option.some.injEq] at e; exact .inl e.symm
  | str z =>
    rw [RD.str' r]
    simp only [truD] at e
    split at e
    · rename_i h
      cases e
      refine .inl ⟨h, ?_⟩
      generalize z.length = n
      cases n <;> simp <;> omega
    · cases e
  | lst xs =>
    obtain ⟨a, vs, rfl, hz, hH, hr⟩ := r.lst'
    simp only [truD, Option.some.injEq] at e
    refine .inl (.inl ⟨vs, .inl (.inl hH), ?_⟩)
    rw [← e]
    have := hr.len
    cases xs <;> cases vs <;> simp_all
  | scr xs =>
    obtain ⟨a, vs, rfl, hH, hr⟩ := r.scr' C.K rfl
    simp only [truD, Option.some.injEq] at e
    refine .inl (.inl ⟨vs, hH, ?_⟩)
    rw [← e]
    have := hr.len
    cases xs <;> cases vs <;> simp_all
  | tup xs =>
    obtain ⟨a, vs, rfl, hH, hr⟩ := r.tup'
    simp only [truD, Option.some.injEq] at e
    refine .inl (.inr (.inl ⟨vs, .inl (.inl hH), ?_⟩))
    rw [← e]
    have := hr.len
    cases xs <;> cases vs <;> simp_all
  | dct kvs =>
    obtain ⟨a, rfl, hd⟩ := r.dic
    simp only [truD, Option.some.injEq] at e
    exact .inr ⟨a, kvs, rfl, hd, e.symm⟩
  | ins c fs => simp [truD] at e
  | val v => simp [truD] at e
section
variable {c : Cn} {lv : Nat} {sc : Scope} {fb : Str → Bool} {N : List Str} {X : Cx} {W : WX}
/-- the truth of data -/
theorem tru_x (hK : X.K = c.k.K) (hw : X.w = c.k.w) : TruR X (fun x H Q => ∃ k d Z, RD c.k Z H d x ∧ truD d = some k ∧ Q k H) := by
  intro pins s σ H x v Q I rx h
  obtain ⟨k, d, Z, r, e, q⟩ := h
  rcases truV_of r e with h | ⟨a, kvs, rfl, hd, rfl⟩
  · exact tru_ok pins s σ H x v Q I rx ⟨k, by rw [hK]; exact h, q⟩
  · cases rx
    have hok := I.hok
    rw [hw] at hok
    obtain ⟨o, xs, hH, g, al, hs, hl, nd⟩ := hd.gd hok
    have hx := al.len
    have hz := sizeLine_eq
    have he : (!kvs.isEmpty) = !xs.isEmpty := by cases kvs <;> cases xs <;> simp_all
    rw [he] at q
    have := g_truth (prog := X.prog) (w := c.k.w) (A := X.A) (E := X.xe) (s := s) (Q := TP X pins σ Q) hs g (by omega) ⟨H, I.tok _, q⟩
    rw [hw]
    exact this
/-- a value's truth as a test -/
theorem pt_tru {a : Expr} {t : TE} (hK : X.K = c.k.K) (hw : X.w = c.k.w) (ha : PE X a t) (he : ∀ whole, isTrue a X.env whole = (do let v ← whole; standAt a.pos; holding [v] (truthy v))) :
    PT X a (fun σ H Q => t σ H fun x H1 => ∃ k d Z, RD c.k Z H1 d x ∧ truD d = some k ∧ Q k H1) := by
  refine ⟨fun pins s σ H Q I hw' => ?_⟩
  refine isTrue_plain (thn (ha.run pins s σ H _ I hw') fun v s1 ⟨x, H1, I1, r1, q1⟩ => ?_) (he _)
  exact tru_x hK hw pins s1 σ H1 x v Q I1 r1 q1
def plainTest : Expr → Bool
  | .UnaryOp .Not _ _ => false
  | .BoolOp _ _ _ => false
  | .IfExp _ _ _ _ => false
  | .Compare _ _ _ _ => false
  | _ => true
theorem plainTest_of {x : Expr} (h : plainTest x = true) (env : Env) : ∀ whole, isTrue x env whole = (do let v ← whole; standAt x.pos; holding [v] (truthy v)) := by
  intro whole
  cases x with
  | UnaryOp op a p => cases op <;> first | rfl | cases h
  | BoolOp => cases h
  | IfExp => cases h
  | Compare => cases h
  | _ => rfl
/-- an expression whose test is its value's truth -/
def leafE : E → Bool
  | .var _ | .mov _ | .con _ | .op _ _ | .slc _ _ _ | .call _ _ | .mth _ _ _ | .comp _ _ _ _ _ _ => true
  | _ => false
theorem leaf_eq {a : E} (h : leafE a = true) (Γ : Gam) (e : Ev) (K : O → Ev → Prop) (R : Xp → Ev → Prop) : wE Γ true a e K R = wE Γ false a e (asK true K) R := by
  cases a <;> first | rfl | (unfold wE; rfl) | (exfalso; simp [leafE] at h)
theorem t_leaf {a : E} {x : Expr} (g : Fit c lv sc fb N X W) (ha : PE X x (tE c W a)) (hl : leafE a = true) (hp : plainTest x = true) : PT X x (tT c W a) := by
  refine PT.imp (pt_tru g.hK g.hw ha (plainTest_of hp _)) ?_
  rintro σ H Q ⟨B, Z, e, T, K, R, wd, we, q, ex⟩
  unfold wT at we
  rw [leaf_eq hl] at we
  refine ⟨B, Z, e, T, _, R, wd, we, fun v1 Z1 H1 o1 e1 w1 k1 => ?_, ex⟩
  obtain ⟨k, hk, k', ek, kk⟩ := k1
  cases ek
  obtain ⟨Z2, kp, w2, r⟩ := w1.frz
  exact ⟨k, o1.fz, Z2, r, hk, q Z2 H1 k e1 w2 kk⟩
/-- .. whose value is a bool -/
theorem t_bool {a : E} {x : Expr} (g : Fit c lv sc fb N X W) (ha : PE X x (tE c W a)) (hl : ∀ e K R, wE c.Γ true a e K R = wE c.Γ false a e K R) (hp : plainTest x = true) : PT X x (tT c W a) := by
  refine PT.imp (pt_tru g.hK g.hw ha (plainTest_of hp _)) ?_
  rintro σ H Q ⟨B, Z, e, T, K, R, wd, we, q, ex⟩
  unfold wT at we
  rw [hl] at we
  refine ⟨B, Z, e, T, _, R, wd, we, fun v1 Z1 H1 o1 e1 w1 k1 => ?_, ex⟩
  obtain ⟨k, rfl, kk⟩ := k1
  exact ⟨k, .bl k, Z1, w1.head, rfl, q Z1 H1 k e1 w1.drop kk⟩
/-- a comparison as a test -/
theorem t_op2 {o : Op} {rr : R2} {a b : E} {x : Expr} (hp : PT X x (tTest (tOp rr (tX c W a) (tX c W b)))) (hb : ∀ ds K, opW o ds K → opW o ds fun r => K r ∧ ∃ k, r = .pu (.bl k)) (hw : OpW2 c o rr) : PT X x (tT c W (.op o [a, b])) := by
  refine PT.imp hp ?_
  rintro σ H Q ⟨B, Z, e, T, K, R, wd, we, q, ex⟩
  unfold wT at we
  refine opRead2g wd we ex fun v1 v2 Z1 H1 e1 d1 d2 w1 r1 r2 k2 => ?_
  refine hw w1 r1 r2 (hb _ _ k2) fun v Z' H' r w' ⟨kr, k, hk⟩ => ?_
  subst hk
  obtain ⟨k', h1, k'', h2, h3⟩ := kr
  cases h2
  simp only [O.fz, truD, Option.some.injEq] at h1
  subst h1
  exact ⟨k, RD.bl' w'.head, q Z' H' k e1 w'.drop h3⟩
theorem e_ife {t a b : E} {xt xa xb : Expr} {pos : Pos} (ht : PT X xt (tT c W t)) (ha : PE X xa (tE c W a)) (hb : PE X xb (tE c W b)) : PE X (.IfExp xt xa xb pos) (tE c W (.ife t a b)) := by
  refine PE.imp (pe_ifExp ht ha hb) ?_
  rintro σ H Q ⟨B, Z, e, T, K, R, wd, we, q, ex⟩
  unfold wE at we
  refine ⟨B, Z, e, T, fun k e1 => if k = true then wE c.Γ false a e1 K R else wE c.Γ false b e1 K R, R, wd, we, fun Z1 H1 k e1 w1 k1 => ?_, ex⟩
  cases k with
  | true => exact ⟨B, Z1, e1, T, K, R, w1, k1, q, ex⟩
  | false => exact ⟨B, Z1, e1, T, K, R, w1, k1, q, ex⟩
end
end DS
/-! DS8b: and, or, not, chains. -/
namespace DS
open PySem PySem.Spec PyProof.Rows L2
section
variable {c : Cn} {lv : Nat} {sc : Scope} {fb : Str → Bool} {N : List Str} {X : Cx} {W : WX} {xa xb xc : Expr} {rest : List Expr} {pos : Pos} {a b d : E}
def tTru (c : Cn) (t : TE) (k1 : V → Hp → Bool → Sl → VK → Prop) : TE := fun σ H Q => t σ H fun x H1 => ∃ k d Z, RD c.k Z H1 d x ∧ truD d = some k ∧ k1 x H1 k σ Q
theorem pe_andX {ta tb : TE} (hK : X.K = c.k.K) (hw : X.w = c.k.w) (ha : PE X xa ta) (hb : PE X (.BoolOp .And (xb :: rest) pos) tb) : PE X (.BoolOp .And (xa :: xb :: rest) pos) (tTru c ta fun x H1 k σ Q => if k = true then tb σ H1 Q else Q x H1) := by
  constructor
  intro pins s σ H Q I hh
  apply BoolOp_and
  apply thn (ha.run pins s σ H _ I hh)
  rintro v s1 ⟨x, H1, I1, r1, k, d, Z, rd, tr, q⟩
  apply thn (tru_x hK hw pins s1 σ H1 x v (fun k2 H2 => k2 = k ∧ H2 = H1) I1 r1 ⟨k, d, Z, rd, tr, rfl, rfl⟩)
  rintro k2 s2 ⟨H2, I2, rfl, rfl⟩
  cases k2
  · exact ⟨x, H2, I2, r1, q⟩
  · exact hb.run pins s2 σ H2 Q I2 q
theorem pe_orX {ta tb : TE} (hK : X.K = c.k.K) (hw : X.w = c.k.w) (ha : PE X xa ta) (hb : PE X (.BoolOp .Or (xb :: rest) pos) tb) : PE X (.BoolOp .Or (xa :: xb :: rest) pos) (tTru c ta fun x H1 k σ Q => if k = true then Q x H1 else tb σ H1 Q) := by
  constructor
  intro pins s σ H Q I hh
  apply BoolOp_or
  apply thn (ha.run pins s σ H _ I hh)
  rintro v s1 ⟨x, H1, I1, r1, k, d, Z, rd, tr, q⟩
  apply thn (tru_x hK hw pins s1 σ H1 x v (fun k2 H2 => k2 = k ∧ H2 = H1) I1 r1 ⟨k, d, Z, rd, tr, rfl, rfl⟩)
  rintro k2 s2 ⟨H2, I2, rfl, rfl⟩
  cases k2
  · exact hb.run pins s2 σ H2 Q I2 q
  · exact ⟨x, H2, I2, r1, q⟩
theorem pe_notX {ta : TE} (hK : X.K = c.k.K) (hw : X.w = c.k.w) (ha : PE X xa ta) : PE X (.UnaryOp .Not xa pos) (tTru c ta fun x H1 k σ Q => Q (.bl (!k)) H1) := by
  constructor
  intro pins s σ H Q I hh
  apply UnaryOp_
  apply thn (ha.run pins s σ H _ I hh)
  rintro v s1 ⟨x, H1, I1, r1, k, d, Z, rd, tr, q⟩
  apply not_of
  apply thn (tru_x hK hw pins s1 σ H1 x v (fun k2 H2 => Q (.bl (!k2)) H2) I1 r1 ⟨k, d, Z, rd, tr, q⟩)
  rintro k2 s2 ⟨H2, I2, q2⟩
  exact ⟨.bl (!k2), H2, I2, rfl, q2⟩
theorem e_and (g : Fit c lv sc fb N X W) (ha : PE X xa (tE c W a)) (hb : PE X (.BoolOp .And (xb :: rest) pos) (tE c W b)) : PE X (.BoolOp .And (xa :: xb :: rest) pos) (tE c W (.andE a b)) := by
  refine PE.imp (pe_andX g.hK g.hw ha hb) ?_
  rintro σ H Q ⟨B, Z, e, T, K, R, wd, we, q, ex⟩
  unfold wE at we
  refine ⟨B, Z, e, T, _, R, wd, we, fun v1 Z1 H1 o1 e1 w1 k1 => ?_, ex⟩
  obtain ⟨k, hk, k1⟩ := k1
  obtain ⟨Z2, kp, w2, r⟩ := w1.frz
  refine ⟨k, o1.fz, Z2, r, hk, ?_⟩
  cases k with
  | true => exact ⟨B, Z2, e1, T, K, R, w2, k1, q, ex⟩
  | false => exact q _ _ _ _ _ (w2.push r) k1
theorem e_or (g : Fit c lv sc fb N X W) (ha : PE X xa (tE c W a)) (hb : PE X (.BoolOp .Or (xb :: rest) pos) (tE c W b)) : PE X (.BoolOp .Or (xa :: xb :: rest) pos) (tE c W (.orE a b)) := by
  refine PE.imp (pe_orX g.hK g.hw ha hb) ?_
  rintro σ H Q ⟨B, Z, e, T, K, R, wd, we, q, ex⟩
  unfold wE at we
  refine ⟨B, Z, e, T, _, R, wd, we, fun v1 Z1 H1 o1 e1 w1 k1 => ?_, ex⟩
  obtain ⟨k, hk, k1⟩ := k1
  obtain ⟨Z2, kp, w2, r⟩ := w1.frz
  refine ⟨k, o1.fz, Z2, r, hk, ?_⟩
  cases k with
  | false => exact ⟨B, Z2, e1, T, K, R, w2, k1, q, ex⟩
  | true => exact q _ _ _ _ _ (w2.push r) k1
/-- an expression whose test reading is no other than its value's -/
def sameE : E → Bool
  | .notE _ => true
  | .chain _ _ _ _ _ => true
  | _ => false
theorem same_eq {a : E} (h : sameE a = true) (Γ : Gam) (e : Ev) (K : O → Ev → Prop) (R : Xp → Ev → Prop) : wE Γ true a e K R = wE Γ false a e K R := by
  cases a <;> first | (exfalso; simp [sameE] at h; done) | (unfold wE; rfl)
theorem e_not (g : Fit c lv sc fb N X W) (ha : PE X xa (tE c W a)) (hl : (leafE a || sameE a) = true) : PE X (.UnaryOp .Not xa pos) (tE c W (.notE a)) := by
  refine PE.imp (pe_notX g.hK g.hw ha) ?_
  rintro σ H Q ⟨B, Z, e, T, K, R, wd, we, q, ex⟩
  unfold wE at we
  cases hs : sameE a with
  | true =>
    rw [same_eq hs] at we
    refine ⟨B, Z, e, T, _, R, wd, we, fun v1 Z1 H1 o1 e1 w1 k1 => ?_, ex⟩
    obtain ⟨k, rfl, k1⟩ := k1
    exact ⟨k, .bl k, Z1, w1.head, rfl, q _ _ _ _ _ (w1.drop.pBl _) k1⟩
  | false =>
    rw [hs, Bool.or_false] at hl
    rw [leaf_eq hl] at we
    refine ⟨B, Z, e, T, _, R, wd, we, fun v1 Z1 H1 o1 e1 w1 k1 => ?_, ex⟩
    obtain ⟨k, hk, k', ek, k1⟩ := k1
    cases ek
    obtain ⟨Z2, kp, w2, r⟩ := w1.frz
    exact ⟨k, o1.fz, Z2, r, hk, q _ _ _ _ _ (w2.pBl _) k1⟩
theorem t_not {xa : Expr} (ha : PT X xa (tT c W a)) : PT X (.UnaryOp .Not xa pos) (tT c W (.notE a)) := by
  refine PT.imp (pt_not ha) ?_
  rintro σ H Q ⟨B, Z, e, T, K, R, wd, we, q, ex⟩
  unfold wT wE at we
  refine ⟨B, Z, e, T, fun k e1 => K (!k) e1, R, wd, ?_, fun Z1 H1 k e1 w1 k1 => q _ _ _ _ w1 k1, ex⟩
  unfold wT
  simpa only [O.pu.injEq, D.bl.injEq, exists_eq_left'] using we
theorem t_and {rest : List Expr} (ha : PT X xa (tT c W a)) (hb : PW X (.BoolOp .And (xb :: rest) pos) (tT c W b)) : PW X (.BoolOp .And (xa :: xb :: rest) pos) (tT c W (.andE a b)) := by
  refine ⟨fun whole pins s σ H Q I h => (pw_and ha hb).run whole pins s σ H Q I ?_⟩
  obtain ⟨B, Z, e, T, K, R, wd, we, q, ex⟩ := h
  unfold wT wE at we
  refine ⟨B, Z, e, T, fun k e1 => if k = true then wT c.Γ b e1 K R else K false e1, R, wd, ?_, fun Z1 H1 k e1 w1 k1 => ?_, ex⟩
  · unfold wT
    refine cast (congrArg (fun z => wE c.Γ true a e z R) ?_) we
    funext x e1
    apply propext
    constructor
    · rintro ⟨k, h1, h2⟩
      cases h1
      refine ⟨k, rfl, ?_⟩
      cases k with
      | true => simpa [O.fz] using h2
      | false => simpa [O.fz] using h2
    · rintro ⟨k, rfl, h2⟩
      refine ⟨k, rfl, ?_⟩
      cases k with
      | true => simpa [O.fz] using h2
      | false => simpa [O.fz] using h2
  · cases k with
    | true => exact ⟨B, Z1, e1, T, K, R, w1, k1, q, ex⟩
    | false => exact q _ _ _ _ w1 k1
theorem t_or {rest : List Expr} (ha : PT X xa (tT c W a)) (hb : PW X (.BoolOp .Or (xb :: rest) pos) (tT c W b)) : PW X (.BoolOp .Or (xa :: xb :: rest) pos) (tT c W (.orE a b)) := by
  refine ⟨fun whole pins s σ H Q I h => (pw_or ha hb).run whole pins s σ H Q I ?_⟩
  obtain ⟨B, Z, e, T, K, R, wd, we, q, ex⟩ := h
  unfold wT wE at we
  refine ⟨B, Z, e, T, fun k e1 => if k = true then K true e1 else wT c.Γ b e1 K R, R, wd, ?_, fun Z1 H1 k e1 w1 k1 => ?_, ex⟩
  · unfold wT
    refine cast (congrArg (fun z => wE c.Γ true a e z R) ?_) we
    funext x e1
    apply propext
    constructor
    · rintro ⟨k, h1, h2⟩
      cases h1
      refine ⟨k, rfl, ?_⟩
      cases k with
      | true => simpa [O.fz] using h2
      | false => simpa [O.fz] using h2
    · rintro ⟨k, rfl, h2⟩
      refine ⟨k, rfl, ?_⟩
      cases k with
      | true => simpa [O.fz] using h2
      | false => simpa [O.fz] using h2
  · cases k with
    | false => exact ⟨B, Z1, e1, T, K, R, w1, k1, q, ex⟩
    | true => exact q _ _ _ _ w1 k1
theorem t_ife {t : E} {xt : Expr} (ht : PT X xt (tT c W t)) (ha : PT X xa (tT c W a)) (hb : PT X xb (tT c W b)) (hi : PT X (.IfExp xt xa xb pos) (fun σ H Q => tT c W t σ H fun k H1 => if k = true then tT c W a σ H1 Q else tT c W b σ H1 Q)) : PT X (.IfExp xt xa xb pos) (tT c W (.ife t a b)) := by
  refine PT.imp hi ?_
  rintro σ H Q ⟨B, Z, e, T, K, R, wd, we, q, ex⟩
  unfold wT wE at we
  refine ⟨B, Z, e, T, fun k e1 => if k = true then wT c.Γ a e1 K R else wT c.Γ b e1 K R, R, wd, we, fun Z1 H1 k e1 w1 k1 => ?_, ex⟩
  cases k with
  | true => exact ⟨B, Z1, e1, T, K, R, w1, k1, q, ex⟩
  | false => exact ⟨B, Z1, e1, T, K, R, w1, k1, q, ex⟩
/-- a op b op c -/
theorem chainX {o1 o2 : Op} {r1 r2 : R2} (h1 : OpW2 c o1 r1) (h2 : OpW2 c o2 r2) (σ : Sl) (H : Hp) (Q : VK) (h : tE c W (.chain o1 o2 a b d) σ H Q) : tChain r1 r2 (tE c W a) (tE c W b) (tE c W d) σ H Q := by
  obtain ⟨B, Z, e, T, K, R, wd, we, q, ex⟩ := h
  unfold wE at we
  refine ⟨B, Z, e, T, _, R, wd, we, fun v1 Z1 H1 o1 e1 w1 k1 => ?_, ex⟩
  refine ⟨B, Z1, e1, (o1, v1) :: T, _, R, w1, k1, fun v2 Z2 H2 o2 e2 w2 k2 => ?_, ex⟩
  obtain ⟨Z3, kp3, w3, r3⟩ := w2.frz
  obtain ⟨Z4, kp4, w4, r4⟩ := w3.frz
  refine h1 (w4.push (r3.keep kp4)) r4.rv (r3.keep kp4).rv k2 fun v Z' H' r w' kr => ?_
  obtain ⟨k, rfl, kr⟩ := kr
  refine ⟨k, RD.bl' w'.head, ?_⟩
  have w5 := w'.drop
  cases k with
  | false => exact q _ _ _ _ _ (w5.drop.pBl _) kr
  | true =>
    refine ⟨B, Z', e2, _, _, R, w5, kr, fun v3 Z6 H6 o3 e3 w6 k3 => ?_, ex⟩
    obtain ⟨Z7, kp7, w7, r7⟩ := w6.frz
    have ry := w7.head
    refine h2 w7.drop ry.rv r7.rv k3 fun v Z8 H8 r w8 kr => ?_
    obtain ⟨k2, rfl, kr⟩ := kr
    exact q _ _ _ _ _ w8 kr
end
end DS
/-! DS8c: the call of a def. -/
namespace DS
open PySem PySem.Spec PyProof.Rows L2
section
variable {c : Cn} {lv : Nat} {sc : Scope} {fb : Str → Bool} {N : List Str} {X : Cx} {W : WX} {xa xb xc : Expr} {rest : List Expr} {pos : Pos} {a b d : E}
theorem pt_ifE {tA ta tb : TT} (hc : PT X xc tA) (ha : PT X xa ta) (hb : PT X xb tb) : PT X (.IfExp xc xa xb pos) (fun σ H Q => tA σ H fun k H1 => if k = true then ta σ H1 Q else tb σ H1 Q) := by
  constructor
  intro pins s σ H Q I h
  unfold PySem.isTrue
  apply wpAny_bind
  apply thn (hc.run pins s σ H _ I h)
  rintro k s1 ⟨H1, I1, q1⟩
  cases k
  · exact hb.run pins s1 σ H1 Q I1 q1
  · exact ha.run pins s1 σ H1 Q I1 q1
/-! ### arguments -/
def avV : List Av → List V → List V
  | .v _ :: as, _ :: vs => avV as vs
  | .io _ :: as, v :: vs => v :: avV as vs
  | _, _ => []
def avO : List Av → Ev → List O
  | [], _ => []
  | .v _ :: as, e => avO as e
  | .io i :: as, e => match e[i]? with
    | some (some o) => o :: avO as e
    | _ => avO as e
def clr : List Nat → Ev → Ev
  | [], e => e
  | i :: is, e => clr is (e.set i none)
def posT : Nat → List Bool → List Nat
  | _, [] => []
  | n, b :: r => if b = true then n :: posT (n + 1) r else posT (n + 1) r
theorem avS.len {σ : Sl} : ∀ {as : List Av} {vs : List V}, avS σ as vs → as.length = vs.length
  | [], [], _ => rfl
  | .v _ :: as, _ :: vs, h => by simp [avS.len (as := as) (vs := vs) h]
  | .io _ :: as, _ :: vs, h => by simp [avS.len (as := as) (vs := vs) h.2]
  | .v _ :: _, [], h => h.elim
  | .io _ :: _, [], h => h.elim
  | [], _ :: _, h => h.elim
theorem iov_of {σ : Sl} : ∀ {as : List Av} {vs : List V} (pre : List V), avS σ as vs → (posT pre.length (as.map avB)).map (fun i => (pre ++ vs).getD i .non) = avV as vs
  | [], [], pre, _ => rfl
  | .v _ :: as, v :: vs, pre, h => by
    have := iov_of (pre ++ [v]) (as := as) (vs := vs) h
    simpa [posT, avB, avV] using this
  | .io _ :: as, v :: vs, pre, h => by
    have := iov_of (pre ++ [v]) (as := as) (vs := vs) h.2
    simp only [List.length_append, List.length_cons, List.length_nil, Nat.zero_add, List.append_assoc, List.cons_append, List.nil_append] at this
    simp only [List.map_cons, posT, avB, avV, if_pos, List.map_cons]
    refine congr (congrArg List.cons ?_) this
    simp
  | .v _ :: _, [], _, h => h.elim
  | .io _ :: _, [], _, h => h.elim
  | [], _ :: _, _, h => h.elim
/-- the written values become data -/
def avP (C : Kx) (Z : Addr → Prop) (H : Hp) : List Av → List V → Prop
  | .v o :: as, v :: vs => RD C Z H o.fz v ∧ avP C Z H as vs
  | .io _ :: as, _ :: vs => avP C Z H as vs
  | [], [] => True
  | _, _ => False
theorem Wd.avs {C : Kx} {B : Bs} {H : Hp} {e : Ev} {σ : Sl} : ∀ {as : List Av} {vs : List V} {T : Tm} {Z : Addr → Prop}, avS σ as vs → Wd C B Z H σ e ((avT as vs).reverse ++ T) → ∃ Z', Kp Z Z' H H ∧ Wd C B Z' H σ e T ∧ avP C Z' H as vs
  | [], [], T, Z, _, w => ⟨Z, .refl, w, trivial⟩
  | .v o :: as, v :: vs, T, Z, hs, w => by
    have w' : Wd C B Z H σ e ((avT as vs).reverse ++ ((o, v) :: T)) := by simpa [avT] using w
    obtain ⟨Z1, k1, w1, r1⟩ := Wd.avs (as := as) (vs := vs) hs w'
    obtain ⟨Z2, k2, w2, r2⟩ := w1.frz
    refine ⟨Z2, k1.trans k2, w2, r2, ?_⟩
    clear hs w w' w1 w2
    revert r1
    generalize as = as, vs = vs
    intro r1
    induction as generalizing vs with
    | nil => cases vs <;> first | exact r1 | exact trivial
    | cons a as ih =>
      cases vs with
      | nil => cases a <;> exact r1
      | cons v vs =>
        cases a with
        | v o => exact ⟨r1.1.keep k2, ih _ r1.2⟩
        | io i => exact ih _ r1
  | .io _ :: as, _ :: vs, T, Z, hs, w => Wd.avs (as := as) (vs := vs) hs.2 w
  | .v _ :: _, [], _, _, h, _ => h.elim
  | .io _ :: _, [], _, _, h, _ => h.elim
  | [], _ :: _, _, _, h, _ => h.elim
/-- the handed things with the written ones -/
theorem mixRO {C : Kx} {Z : Addr → Prop} {H : Hp} {e : Ev} : ∀ {as : List Av} {vs : List V} {args : List O} {F : List Addr}, avArgs as e = some args → avP C Z H as vs → ROs C Z H (avO as e) (avV as vs) F → ROs C Z H args vs F
  | [], [], args, F, h, _, r => by simp only [avArgs, Option.some.injEq] at h; subst h; exact r
  | .v o :: as, v :: vs, args, F, h, p, r => by
    simp only [avArgs, Option.map_eq_some_iff] at h
    obtain ⟨l, h1, rfl⟩ := h
    simp only [ROs]
    exact ⟨v, vs, [], F, rfl, rfl, by simp only [RO]; exact ⟨trivial, p.1⟩, mixRO h1 p.2 r⟩
  | .io i :: as, v :: vs, args, F, h, p, r => by
    simp only [avArgs] at h
    split at h
    · rename_i o ho
      simp only [Option.map_eq_some_iff] at h
      obtain ⟨l, h1, rfl⟩ := h
      simp only [avO, ho, avV, ROs] at r
      obtain ⟨v', r', F1, F2, e1, rfl, h2, h3⟩ := r
      cases e1
      simp only [ROs]
      exact ⟨_, vs, F1, F2, rfl, rfl, h2, mixRO h1 p h3⟩
    · cases h
  | .v _ :: _, [], _, _, _, h, _ => h.elim
  | .io _ :: _, [], _, _, _, h, _ => h.elim
  | [], _ :: _, _, _, _, h, _ => h.elim
theorem avO_set {i : Nat} {e : Ev} {x : Option O} : ∀ {as : List Av}, i ∉ avIos as → avO as (e.set i x) = avO as e
  | [], _ => rfl
  | .v _ :: as, h => avO_set (as := as) h
  | .io j :: as, h => by
    simp only [avIos, List.mem_cons, not_or] at h
    simp only [avO, avO_set (as := as) h.2]
    rw [List.getElem?_set_ne h.1]
theorem avArgs_set {i : Nat} {e : Ev} {x : Option O} : ∀ {as : List Av}, i ∉ avIos as → avArgs as (e.set i x) = avArgs as e
  | [], _ => rfl
  | .v _ :: as, h => by simp only [avArgs]; rw [avArgs_set (as := as) h]
  | .io j :: as, h => by
    simp only [avIos, List.mem_cons, not_or] at h
    simp only [avArgs, avArgs_set (as := as) h.2]
    rw [List.getElem?_set_ne h.1]
/-- the handed things out of their names -/
theorem Wd.takes {C : Kx} {B : Bs} {Z : Addr → Prop} {H : Hp} {σ : Sl} : ∀ {as : List Av} {vs : List V} {T : Tm} {e : Ev} {args : List O}, (avIos as).Nodup → avS σ as vs → avArgs as e = some args → Wd C B Z H σ e T →
    Wd C B Z H σ (clr (avIos as) e) (zipT (avO as e) (avV as vs) ++ T) ∧ (avO as e).length = (avV as vs).length
  | [], [], T, e, _, _, _, _, w => ⟨w, rfl⟩
  | .v _ :: as, _ :: vs, T, e, args, nd, hs, ha, w => by
    simp only [avArgs, Option.map_eq_some_iff] at ha
    obtain ⟨l, h1, rfl⟩ := ha
    exact Wd.takes (as := as) nd hs h1 w
  | .io i :: as, v :: vs, T, e, args, nd, hs, ha, w => by
    simp only [avArgs] at ha
    split at ha
    · rename_i o ho
      simp only [Option.map_eq_some_iff] at ha
      obtain ⟨l, h1, rfl⟩ := ha
      obtain ⟨hi, nd2⟩ := List.nodup_cons.mp nd
      obtain ⟨v', hv, w1⟩ := w.take ho
      have : v' = v := by have := hs.1; rw [hv] at this; injection this with this; injection this
      subst this
      obtain ⟨w2, hl⟩ := Wd.takes (as := as) nd2 hs.2 ((avArgs_set hi).trans h1) w1
      rw [avO_set hi] at w2 hl
      simp only [avIos, clr, avO, ho, avV, zipT, List.length_cons, hl, and_true, List.cons_append]
      exact w2.perm List.perm_middle
    · cases ha
  | .v _ :: _, [], _, _, _, _, h, _, _ => h.elim
  | .io _ :: _, [], _, _, _, _, h, _, _ => h.elim
  | [], _ :: _, _, _, _, _, h, _, _ => h.elim
theorem clr_get {j : Nat} : ∀ {is : List Nat} {e : Ev}, (clr is e)[j]? = if j ∈ is then (e[j]?).map (fun _ => none) else e[j]?
  | [], e => by simp [clr]
  | i :: is, e => by
    simp only [clr]
    rw [clr_get, List.getElem?_set]
    by_cases h1 : j = i
    · subst h1
      by_cases h2 : j < e.length
      · simp [h2]
      · simp [h2, List.getElem?_eq_none (Nat.le_of_not_lt h2)]
    · have : ¬ i = j := fun h => h1 h.symm
      simp [this, h1]
theorem clr_set {i : Nat} {x : Option O} : ∀ {is : List Nat} {e : Ev}, i ∉ is → (clr is e).set i x = clr is (e.set i x)
  | [], _, _ => rfl
  | j :: is, e, h => by
    simp only [List.mem_cons, not_or] at h
    simp only [clr]
    rw [clr_set h.2, List.set_comm _ _ (fun e => h.1 e.symm)]
theorem put_clr : ∀ {is : List Nat} {os : List O} {e : Ev}, is.Nodup → os.length = is.length → putOs is os (clr is e) = putOs is os e
  | [], [], _, _, _ => rfl
  | i :: is, o :: os, e, nd, hl => by
    obtain ⟨hi, nd2⟩ := List.nodup_cons.mp nd
    simp only [putOs, clr]
    rw [clr_set hi, List.set_set]
    exact put_clr nd2 (by simpa using hl)
  | [], _ :: _, _, _, hl => by simp at hl
  | _ :: _, [], _, _, hl => by simp at hl
/-- .. and back -/
theorem Wd.backs {C : Kx} {B : Bs} {Z : Addr → Prop} {H : Hp} {σ : Sl} : ∀ {as : List Av} {vs : List V} {outs : List O} {T : Tm} {e : Ev}, (avIos as).Nodup → avS σ as vs → outs.length = (avIos as).length → (∀ i ∈ avIos as, e[i]? = some none) →
    Wd C B Z H σ e (zipT outs (avV as vs) ++ T) → Wd C B Z H σ (putOs (avIos as) outs e) T
  | [], [], [], T, e, _, _, _, _, w => w
  | [], [], _ :: _, _, _, _, _, hl, _, _ => by simp [avIos] at hl
  | .v _ :: as, _ :: vs, outs, T, e, nd, hs, hl, hn, w => Wd.backs (as := as) nd hs hl hn w
  | .io i :: as, v :: vs, [], T, e, nd, hs, hl, hn, w => by simp [avIos] at hl
  | .io i :: as, v :: vs, o :: outs, T, e, nd, hs, hl, hn, w => by
    obtain ⟨hi, nd2⟩ := List.nodup_cons.mp nd
    simp only [avIos, putOs]
    refine Wd.backs (as := as) (vs := vs) nd2 hs.2 (by simpa [avIos] using hl) (fun j hj => ?_) (Wd.back w (hn i (by simp [avIos])) hs.1)
    rw [List.getElem?_set_ne (fun q => hi (by rw [q]; exact hj))]
    exact hn j (by simp [avIos, hj])
  | .v _ :: _, [], _, _, _, _, h, _, _, _ => h.elim
  | .io _ :: _, [], _, _, _, _, h, _, _, _ => h.elim
  | [], _ :: _, _, _, _, _, h, _, _, _ => h.elim
theorem as_nil : PA X [] (tAs c W []) := by
  refine PA.imp pa_nil ?_
  rintro σ H Q ⟨B, Z, e, T, K, R, wd, we, q, ex⟩
  exact q [] [] Z H e wd trivial rfl we
theorem as_io {i : Nat} {y : Str} {p : Pos} {as : List E} {xs : List Expr} (g : Fit c lv sc fb N X W) (hN : N[i]? = some y) (hv : visB sc y = true) (hd : (y == ("__debug__" : Str)) = false) (hcd : (y == ("__classdict__" : Str)) = false)
    (hr : PA X xs (tAs c W as)) : PA X (.Name y p :: xs) (tAs c W (.io i :: as)) := by
  refine PA.imp (pa_cons (pe_var (i := i) (by rw [g.hN]; exact hN) (by rw [g.hsc]; exact vis_of hv) hd hcd) hr rfl) ?_
  rintro σ H Q ⟨B, Z, e, T, K, R, wd, we, q, ex⟩
  unfold wAs at we
  obtain ⟨⟨o, ho⟩, we⟩ := we
  obtain ⟨v, hs, _⟩ := wd.take ho
  refine ⟨v, hs, B, Z, e, T, _, R, wd, we, fun avs vs Z1 H1 e1 w1 hA hB k1 => ?_, ex⟩
  exact q (.io i :: avs) (v :: vs) Z1 H1 e1 w1 ⟨hs, hA⟩ (by simp [hB, avB, ioB]) k1
theorem as_cons {a : E} {as : List E} {x : Expr} {xs : List Expr} (ha : PE X x (tE c W a)) (hr : PA X xs (tAs c W as)) (hs : noStar x = true) (hi : ioB a = false) : PA X (x :: xs) (tAs c W (a :: as)) := by
  refine PA.imp (pa_cons ha hr (star_of hs _)) ?_
  rintro σ H Q ⟨B, Z, e, T, K, R, wd, we, q, ex⟩
  have we : wE c.Γ false a e (fun x e1 => wAs c.Γ as e1 (fun xs e2 => K (.v x :: xs) e2) R) R := by
    cases a <;> first | (simp [ioB] at hi; done) | (unfold wAs at we; exact we)
  refine ⟨B, Z, e, T, _, R, wd, we, fun v1 Z1 H1 o1 e1 w1 k1 => ?_, ex⟩
  refine ⟨B, Z1, e1, (o1, v1) :: T, _, R, w1, k1, fun avs vs Z2 H2 e2 w2 hA hB k2 => ?_, ex⟩
  exact q (.v o1 :: avs) (v1 :: vs) Z2 H2 e2 (by simpa [avT] using w2) hA (by simp [hB, avB, hi]) k2
theorem putOs_len : ∀ {is : List Nat} {os : List O} {e : Ev}, (putOs is os e).length = e.length
  | [], _, _ => by simp [putOs]
  | _ :: _, [], _ => by simp [putOs]
  | i :: is, o :: os, e => by simp only [putOs]; rw [putOs_len]; simp
theorem avIos_bound {e : Ev} : ∀ {as : List Av} {args : List O}, avArgs as e = some args → ∀ i ∈ avIos as, i < e.length
  | [], _, _, i, h => by simp [avIos] at h
  | .v _ :: as, args, h, i, hi => by
    simp only [avArgs, Option.map_eq_some_iff] at h
    obtain ⟨l, h1, rfl⟩ := h
    exact avIos_bound (as := as) h1 i hi
  | .io j :: as, args, h, i, hi => by
    simp only [avArgs] at h
    split at h
    · rename_i o ho
      simp only [Option.map_eq_some_iff] at h
      obtain ⟨l, h1, rfl⟩ := h
      simp only [avIos, List.mem_cons] at hi
      rcases hi with rfl | hi
      · exact (List.getElem?_eq_some_iff.mp ho).1
      · exact avIos_bound (as := as) h1 i hi
    · cases h
theorem Wd.push' {C : Kx} {B : Bs} {Z : Addr → Prop} {H : Hp} {e : Ev} {σ : Sl} {o : O} {v : V} {outs : List O} {us : List V} {T : Tm} (w : Wd C B Z H σ e (zipT (o :: outs) (v :: us) ++ T)) : Wd C B Z H σ e (zipT outs us ++ ((o, v) :: T)) := w.perm (by simpa [zipT] using List.perm_middle.symm)
theorem Wd.nil {C : Kx} {B : Bs} {Z : Addr → Prop} {H : Hp} {e : Ev} {σ : Sl} : ∀ {T : Tm}, Wd C B Z H σ e T → Wd C B Z H σ e []
  | [], w => w
  | _ :: T, w => Wd.nil (T := T) w.drop
theorem avArgs_len {e : Ev} : ∀ {as : List Av} {args : List O}, avArgs as e = some args → args.length = as.length
  | [], _, h => by simp only [avArgs, Option.some.injEq] at h; subst h; rfl
  | .v _ :: as, args, h => by
    simp only [avArgs, Option.map_eq_some_iff] at h
    obtain ⟨l, h1, rfl⟩ := h
    simp [avArgs_len h1]
  | .io j :: as, args, h => by
    simp only [avArgs] at h
    split at h
    · simp only [Option.map_eq_some_iff] at h
      obtain ⟨l, h1, rfl⟩ := h
      simp [avArgs_len h1]
    · cases h
theorem starPlain (env : Env) (pos : Pos) : ∀ {xs : List Expr}, xs.all noStar = true → (backTo pos (starEach xs env)).any (·.1) = false
  | [], _ => rfl
  | x :: xs, h => by
    simp only [List.all_cons, Bool.and_eq_true] at h
    have := starPlain env pos (xs := xs) h.2
    rw [star_of h.1]
    simpa [backTo] using this
/-- what the call of a def asks -/
theorem callRead {f : Nat} {gi : Gi} {as : List E} {σ : Sl} {H : Hp} {Q : VK} (hio : posT 0 (as.map ioB) = gi.io) (hnp : as.length = gi.np) (h : tE c W (.call f as) σ H Q) :
    tAs c W as σ H fun vs H1 => spOf c gi.np gi.io (c.Γ f) vs H1 Q (WE W σ) := by
  obtain ⟨B, Z, e, T, K, R, wd, we, q, ex⟩ := h
  unfold wE at we
  refine ⟨B, Z, e, T, _, R, wd, we, fun avs vs Z1 H1 e1 w1 hA hB k1 => ?_, ex⟩
  obtain ⟨nd, args, ha, hG⟩ := k1
  obtain ⟨Z2, kp, w2, hp⟩ := w1.avs hA
  obtain ⟨w3, hl⟩ := w2.takes nd hA ha
  obtain ⟨F, r1, r2, r3, r4⟩ := Wd.call w3
  have e1' : (zipT (avO avs e1) (avV avs vs)).map (·.1) = avO avs e1 ∧ (zipT (avO avs e1) (avV avs vs)).map (·.2) = avV avs vs := by
    revert hl
    generalize avO avs e1 = os
    generalize avV avs vs = us
    intro hl
    induction os generalizing us with
    | nil => cases us <;> first | exact ⟨rfl, rfl⟩ | (simp at hl; done)
    | cons o os ih =>
      cases us with
      | nil => simp at hl
      | cons u us =>
        have := ih us (by simpa using hl)
        simp only [zipT, List.map_cons, this, and_self]
  rw [e1'.1, e1'.2] at r1
  have hio2 : iov gi.io vs = avV avs vs := by
    rw [← hio, ← hB]
    exact iov_of [] hA
  have hlv : vs.length = gi.np := by rw [← hnp, ← hA.len]; have := congrArg List.length hB; simpa using this
  have hno : ∀ i ∈ avIos avs, (clr (avIos avs) e1)[i]? = some none := by
    intro i hi
    rw [clr_get, if_pos hi, List.getElem?_eq_getElem (avIos_bound ha i hi)]
    rfl
  refine ⟨hlv, Z2, args, F, mixRO ha hp r1, r2, r3, w3.zs, ?_⟩
  rw [hio2]
  refine ⟨_, _, hG, fun o outs hk Z3 H3 v A => ?_, fun x outs hk Z3 H3 cls d A xr => ?_⟩
  · obtain ⟨hlo, hk⟩ := hk
    have w4 := (r4 _ _ _ _ A).push'
    have w5 := w4.backs nd hA hlo hno
    rw [put_clr nd hlo] at w5
    exact q _ _ _ _ _ w5 hk
  · obtain ⟨hlo, hk⟩ := hk
    have w4 := r4 _ _ _ _ A
    have w5 := w4.backs nd hA hlo hno
    rw [put_clr nd hlo] at w5
    exact ex.2 _ _ _ _ _ _ _ w5.nil xr hk
/-! arguments in two parts -/
theorem wAs_app {Γ : Gam} {R : Xp → Ev → Prop} {a2 : List E} : ∀ {a1 : List E} {e : Ev} {K : List Av → Ev → Prop}, wAs Γ (a1 ++ a2) e K R = wAs Γ a1 e (fun x1 e1 => wAs Γ a2 e1 (fun x2 e2 => K (x1 ++ x2) e2) R) R
  | [], e, K => by
    conv => rhs; unfold wAs
    rfl
  | a :: a1, e, K => by
    cases h : ioB a with
    | true =>
      cases a <;> first | (simp [ioB] at h; done) | skip
      rename_i i
      rw [List.cons_append]
      conv => lhs; unfold wAs
      conv => rhs; unfold wAs
      dsimp only
      rw [wAs_app (a1 := a1)]
      rfl
    | false =>
      rw [List.cons_append, wAs_v h, wAs_v h]
      congr 1
      funext x e1
      rw [wAs_app (a1 := a1)]
      rfl
theorem avS_app {σ : Sl} : ∀ {a1 a2 : List Av} {v1 v2 : List V}, avS σ a1 v1 → avS σ a2 v2 → avS σ (a1 ++ a2) (v1 ++ v2) ∧ avT (a1 ++ a2) (v1 ++ v2) = avT a1 v1 ++ avT a2 v2
  | [], a2, [], v2, _, h => ⟨h, rfl⟩
  | .v o :: a1, a2, v :: v1, v2, h1, h2 => by
    obtain ⟨q1, q2⟩ := avS_app (a1 := a1) (v1 := v1) h1 h2
    exact ⟨q1, by simp [avT, q2]⟩
  | .io i :: a1, a2, v :: v1, v2, h1, h2 => by
    obtain ⟨q1, q2⟩ := avS_app (a1 := a1) (v1 := v1) h1.2 h2
    exact ⟨⟨h1.1, q1⟩, by simp [avT, q2]⟩
  | .v _ :: _, _, [], _, h, _ => h.elim
  | .io _ :: _, _, [], _, h, _ => h.elim
  | [], _, _ :: _, _, h, _ => h.elim
theorem tAs_app {a1 a2 : List E} {σ : Sl} {H : Hp} {Q : List V → Hp → Prop} (h : tAs c W (a1 ++ a2) σ H Q) : tAs c W a1 σ H fun vs H1 => tAs c W a2 σ H1 fun zs H2 => vs.length = a1.length ∧ zs.length = a2.length ∧ Q (vs ++ zs) H2 := by
  obtain ⟨B, Z, e, T, K, R, wd, we, q, ex⟩ := h
  rw [wAs_app] at we
  refine ⟨B, Z, e, T, _, R, wd, we, fun x1 v1 Z1 H1 e1 w1 hA1 hB1 k1 => ?_, ex⟩
  refine ⟨B, Z1, e1, _, _, R, w1, k1, fun x2 v2 Z2 H2 e2 w2 hA2 hB2 k2 => ?_, ex⟩
  obtain ⟨q1, q2⟩ := avS_app hA1 hA2
  refine ⟨by rw [← hA1.len]; simpa using congrArg List.length hB1, by rw [← hA2.len]; simpa using congrArg List.length hB2, q (x1 ++ x2) (v1 ++ v2) Z2 H2 e2 ?_ q1 (by simp [hB1, hB2]) k2⟩
  rw [q2]
  simpa using w2
/-- keywords -/
theorem PK.imp {x : List Keyword} {t t' : TA} (h : PK X x t) (i : ∀ σ H Q, t' σ H Q → t σ H Q) : PK X x t' := ⟨fun pos pins s σ H Q I q => h.run pos pins s σ H Q I (i σ H Q q)⟩
theorem ks_nil : PK X [] (tAs c W []) := by
  refine PK.imp pk_nil ?_
  rintro σ H Q ⟨B, Z, e, T, K, R, wd, we, q, ex⟩
  exact q [] [] Z H e wd trivial rfl we
theorem ks_cons {a : E} {as : List E} {x : Expr} {kws : List Keyword} {nm : Option Str} {kp : Pos} (ha : PE X x (tE c W a)) (hr : PK X kws (tAs c W as)) (hi : ioB a = false) : PK X (⟨nm, x, kp⟩ :: kws) (tAs c W (a :: as)) := by
  refine PK.imp (pk_cons ha hr) ?_
  rintro σ H Q ⟨B, Z, e, T, K, R, wd, we, q, ex⟩
  rw [wAs_v hi] at we
  refine ⟨B, Z, e, T, _, R, wd, we, fun v1 Z1 H1 o1 e1 w1 k1 => ?_, ex⟩
  refine ⟨B, Z1, e1, (o1, v1) :: T, _, R, w1, k1, fun avs vs Z2 H2 e2 w2 hA hB k2 => ?_, ex⟩
  exact q (.v o1 :: avs) (v1 :: vs) Z2 H2 e2 (by simpa [avT] using w2) hA (by simp [hB, avB, hi]) k2
end
end DS
/-! DS8d: calls, comprehensions. -/
namespace DS
open PySem PySem.Spec PyProof.Rows L2
section
variable {c : Cn} {lv : Nat} {sc : Scope} {fb : Str → Bool} {N : List Str} {X : Cx} {W : WX} {xa xb xc : Expr} {rest : List Expr} {p pos : Pos} {a b d : E}
def glB (sc : Scope) (x : Str) : Bool := match sc.names.lookup x with
  | some .globalImplicit => true
  | _ => false
theorem gl_of {x : Str} (g : Fit c lv sc fb N X W) (h : glB sc x = true) : Gl X x := by
  show X.env.scope.names.lookup x = _
  rw [g.hsc]
  unfold glB at h
  split at h
  · assumption
  · cases h
/-- a def's run, as it is called -/
theorem runAt {k n : Nat} {f : Addr} {fd : FuncData} {ps ks : List Str} {sp : Sp} {gg : List Value → List Value → List Value} {gV : List V → List V → List V} {pins : List (Addr × Obj)} {σ : Sl} {H : Hp} {s : Shared} {Q : VK} {us ws : List Value} {vs zs : List V} {Ex : XK}
    (F : FnOk X.prog X.w X.K X.mg X.base (L2.CX X.prog X.w) k f fd ps sp) (hr : Room k X.A) (hb : KBn X.K fd ps n ks gg gV) (hx : PassesAt (L2.CX X.prog X.w) X σ Ex) (I : Inv X pins σ H s) (r : Vals vs us) (rz : Vals zs ws) (l1 : vs.length = n) (l2 : zs.length = ks.length) (h : sp (gV vs zs) H Q Ex) :
    wpAny (model X.prog X.w) X.A (call (.ref f) us (ks.zip ws)) (EP X pins σ Q) X.xe s := by
  have b := hb.to s us ws I.kIn (by rw [← r.length]; exact l1) (by rw [← rz.length]; exact l2)
  have run := F.run X.A X.stack s H ⟨us, ks.zip ws⟩ (gg us ws) (gV vs zs) Q Ex hr I.env0 b (hb.rel r rz) h
  refine wpAny_call (codeAny_mono run fun o s' hq => ?_)
  rcases o with e | fl
  · exact hx pins H s e s' I hq
  · cases fl <;> first | exact I.after hq | exact hq.elim
theorem kwNames {env : Env} {pos : Pos} : ∀ {kws : List Keyword} {ks : List Str}, kws.map (·.arg) = ks.map some → (backToKw pos (keywordEach kws env)).all (·.1.isSome) = true ∧ (backToKw pos (keywordEach kws env)).filterMap (·.1) = ks ∧ (backToKw pos (keywordEach kws env)).any (·.1.isNone) = false
  | [], ks, h => by
    cases ks with
    | nil => exact ⟨rfl, rfl, rfl⟩
    | cons => simp at h
  | ⟨nm, x, kp⟩ :: kws, ks, h => by
    cases ks with
    | nil => simp at h
    | cons k ks =>
      simp only [List.map_cons, List.cons.injEq] at h
      obtain ⟨h1, h2⟩ := h
      obtain ⟨q1, q2, q3⟩ := kwNames (env := env) (pos := pos) h2
      subst h1
      refine ⟨?_, ?_, ?_⟩
      · simpa [backToKw, keywordEach] using q1
      · simpa [backToKw, keywordEach] using q2
      · simpa [backToKw, keywordEach] using q3
theorem e_call {f : Nat} {gi : Gi} {a1 a2 : List E} {xs : List Expr} {kws : List Keyword} {y : Str} (g : Fit c lv sc fb N X W) (hf : c.G[f]? = some gi) (hy : gi.name = y) (hg : glB sc y = true) (hdb : (y == ("__debug__" : Str)) = false)
    (ha : PA X xs (tAs c W a1)) (hs : xs.all noStar = true) (hla : a1.length = xs.length) (hk : PK X kws (tAs c W a2)) (hlk : a2.length = kws.length) (hks : kws.map (·.arg) = gi.ks.map some) (hio : posT 0 ((a1 ++ a2).map ioB) = gi.io) (hnp : (a1 ++ a2).length = gi.np) : PE X (.Call (.Name y p) xs kws pos) (tE c W (.call f (a1 ++ a2))) := by
  obtain ⟨fa, fd, ps, sp, n, gg, gV, F, hm, hkp, hb, hn, himp⟩ := (g.fn f gi hf).fn
  subst hy
  have hlk2 : gi.ks.length = a2.length := by have := congrArg List.length hks; simp at this; omega
  have hn1 : n = a1.length := by rw [List.length_append] at hnp; omega
  constructor
  intro pins s σ H Q I h
  have hr := tAs_app (callRead hio hnp h)
  have hr2 : tAs c W a1 σ H fun vs H1 => tAs c W a2 σ H1 fun zs H2 => vs.length = n ∧ zs.length = gi.ks.length ∧ sp (gV vs zs) H2 Q (WE W σ) := by
    obtain ⟨B, Z, e, T, K, R, wd, we, q, ex⟩ := hr
    refine ⟨B, Z, e, T, K, R, wd, we, fun avs vs Z1 H1 e1 w1 hA hB k1 => ?_, ex⟩
    obtain ⟨B2, Z2, e2, T2, K2, R2, wd2, we2, q2, ex2⟩ := q avs vs Z1 H1 e1 w1 hA hB k1
    refine ⟨B2, Z2, e2, T2, K2, R2, wd2, we2, fun avs vs Z1 H1 e1 w1 hA hB k1 => ?_, ex2⟩
    obtain ⟨l1, l2, hsp⟩ := q2 avs vs Z1 H1 e1 w1 hA hB k1
    exact ⟨by omega, by omega, himp _ _ _ _ _ (by omega) (by omega) hsp⟩
  obtain ⟨q1, q2, q3⟩ := kwNames (env := X.env) (pos := pos) hks
  cases xs with
  | nil =>
    have hn2 : a1 = [] := List.length_eq_zero_iff.mp (by simpa using hla)
    subst hn2
    obtain ⟨B, Z, e, T, K, R, wd, we, q, ex⟩ := hr2
    unfold wAs at we
    have h0 := q [] [] Z H e wd trivial rfl we
    refine wpAny_Call_Name_kw (ld_glob I (gl_of g hg) hm ?_ hdb)
    refine PySem.W.callWith_KW0 (h₀ := X.base) I.ok.mod.kin hkp q1 ?_ (by rw [q3]; rfl)
    refine thn (hk.run pos pins s σ H _ I h0) fun ws s2 ⟨zs, H2, I2, rz, l1, l2, q2'⟩ => ⟨I2.kIn, ?_⟩
    rw [q2]
    exact runAt (us := []) (vs := []) F g.room hb (passAt g.tk σ) I2 .nil rz l1 l2 q2'
  | cons x xs =>
    simp only [List.all_cons, Bool.and_eq_true] at hs
    have he := star_of (as := xs) hs.1 X.env
    refine wpAny_Call_Name_kw (ld_glob I (gl_of g hg) hm ?_ hdb)
    refine PySem.W.callWith_KW (h₀ := X.base) I.ok.mod.kin hkp q1 ?_ (by rw [q3, Bool.or_false]; exact starPlain _ _ (by simp [hs])) he
    refine thn (ha.run pos pins s σ H _ I hr2) fun us s1 ⟨vs, H1, I1, rv, h1⟩ => ?_
    refine thn (hk.run pos pins s1 σ H1 _ I1 h1) fun ws s2 ⟨zs, H2, I2, rz, l1, l2, h2⟩ => ⟨I2.kIn, ?_⟩
    rw [q2]
    exact runAt F g.room hb (passAt g.tk σ) I2 rv rz l1 l2 h2
/-! ### what is walked -/
def ItV (X : Cx) (tg : Expr) (wi : V → Hp → (It → Hp → Prop) → Prop) : Prop := ∀ (pins : List (Addr × Obj)) (s : Shared) (σ : Sl) (H : Hp) (x : V) (v : Value) (R : It → Hp → Prop), Inv X pins σ H s → RelV x v → wi x H R →
  wpAny (model X.prog X.w) X.A (pyIter v) (PIE X pins σ tg R) X.xe s
theorem ItV.or {tg : Expr} {w1 w2 : V → Hp → (It → Hp → Prop) → Prop} (h1 : ItV X tg w1) (h2 : ItV X tg w2) : ItV X tg (fun x H R => w1 x H R ∨ w2 x H R) := by
  intro pins s σ H x v R I r h
  rcases h with h | h
  · exact h1 pins s σ H x v R I r h
  · exact h2 pins s σ H x v R I r h
theorem pi_val {tg : Expr} {t : TE} {wi : V → Hp → (It → Hp → Prop) → Prop} (ha : PE X xa t) (h : ItV X tg wi) : PI X tg xa (fun σ H R => t σ H fun x H1 => wi x H1 R) := by
  constructor
  intro pins s σ H R I hh
  apply thn (ha.run pins s σ H _ I hh)
  rintro v s1 ⟨x, H1, I1, r1, q1⟩
  exact h pins s1 σ H1 x v R I1 r1 q1
theorem it_list {tg : Expr} : ItV X tg (fun x H R => ∃ p xs, x = .ref p ∧ SqL X.K H p xs ∧ R (Itl X.K p) H) := by
  rintro pins s σ H x v R I r ⟨p, xs, rfl, hq, q⟩
  cases r
  obtain ⟨its, rv, hp, hz⟩ := I.list hq
  exact wpAny_pyIter_list hp.isList (pi_one (tk := s.toks) I _ (turn_list p _) ⟨_, Heap.get?_push_size _ rfl, rfl, rfl⟩ q)
theorem it_tup {tg : Expr} : ItV X tg (fun x H R => ∃ p xs, x = .ref p ∧ SqT X.K H p xs ∧ R (Itt X.K p) H) := by
  rintro pins s σ H x v R I r ⟨p, xs, rfl, hq, q⟩
  cases r
  obtain ⟨its, rv, hp, hz⟩ := I.tuple hq
  exact wpAny_pyIter_tuple (show s.heap.IsTuple p its.toArray from hp) (pi_one (tk := s.toks) I _ (turn_tuple p _) ⟨_, Heap.get?_push_size _ rfl, rfl, rfl⟩ q)
theorem it_str {tg : Expr} : ItV X tg (fun x H R => ∃ z, x = .str z ∧ R (Its z) H) := by
  rintro pins s σ H x v R I r ⟨z, rfl, q⟩
  obtain ⟨t, rfl⟩ := r
  rcases Bool.eq_false_or_eq_true (z.cps.all (· < 128)) with ha | ha
  · exact wpAny_pyIter_ascii ha (pi_one (tk := s.toks) I _ (turn_str _ z t "str_ascii_iterator" (.inl rfl)) ⟨_, Heap.get?_push_size _ rfl, rfl, rfl⟩ q)
  · exact wpAny_pyIter_wide ha (pi_one (tk := s.toks) I _ (turn_str _ z t "str_iterator" (.inr rfl)) ⟨_, Heap.get?_push_size _ rfl, rfl, rfl⟩ q)
/-- the keys of a dict -/
def Itq (d : Addr) (o : Obj) (es : Array DictEntry) : It :=
  ⟨fun i H => H d = some (pin d o) ∧ i < es.size, fun i H x H' => H' = H ∧ ∃ en, es[i]? = some en ∧ RelV x en.key, fun i H => H d = some (pin d o) ∧ es.size ≤ i⟩
theorem pin_get {pins : List (Addr × Obj)} {σ : Sl} {H : Hp} {s : Shared} {d : Addr} {o : Obj} (I : Inv X pins σ H s) (h : H d = some (pin d o)) : s.heap.get? d = some o := by
  have := I.hok d _ h
  exact this.1
end
end DS
/-! DS8e: a dict that is walked. -/
namespace DS
open PySem PySem.Spec PyProof.Rows L2
section
variable {X : Cx} {P : Program} {w : World} {K : PySem.W.Frag} {tg xa : Expr} {d : Addr} {o : Obj} {es : Array DictEntry} {ep : Nat} {apos cpos : Pos}
theorem pin_raw {pins : List (Addr × Obj)} {σ : Sl} {H : Hp} {s : Shared} (I : Inv X pins σ H s) (h : H d = some (pin d o)) (hx : o.ExactDict) (ho : o.data = .dict es ep) : s.heap.DictRaw d es ep := ⟨o, pin_get I h, hx, ho⟩
theorem one_of {it b : Addr} (h : b ∈ [it]) : b = it := by simpa using h
theorem one_mem {it : Addr} : it ∈ [it] := List.mem_singleton.mpr rfl
/-- the values of a dict -/
def Itw (d : Addr) (o : Obj) (es : Array DictEntry) : It :=
  ⟨fun i H => H d = some (pin d o) ∧ i < es.size, fun i H x H' => H' = H ∧ ∃ en, es[i]? = some en ∧ RelV x en.val, fun i H => H d = some (pin d o) ∧ es.size ≤ i⟩
/-- the pairs of a dict -/
def Itp (d : Addr) (o : Obj) (es : Array DictEntry) : It :=
  ⟨fun i H => H d = some (pin d o) ∧ i < es.size, fun i H x H' => ∃ T en kx vx, es[i]? = some en ∧ RelV kx en.key ∧ RelV vx en.val ∧ x = .ref T ∧ H T = none ∧ H' = upd H T (.tup [kx, vx]), fun i H => H d = some (pin d o) ∧ es.size ≤ i⟩
theorem turn_q (it : Addr) (hx : o.ExactDict) (ho : o.data = .dict es ep) (hv : ∀ en ∈ es.toList, ∃ x, RelV x en.key) : Turn P w K tg (Itq d o es) [it] it (fun i h => h.IsKeyIter it d i es.size ep) where
  mem := one_mem
  obj := by
    intro i h st b hb
    rw [one_of hb]
    obtain ⟨oi, e1, _, e2⟩ := st
    refine ⟨oi, e1, fun v z => ?_⟩
    rw [e2] at z
    cases z
  keep := fun i h h' st k => st.at fun oi e => k it one_mem oi e
  item := by
    intro X h1 h2 h3 hc i pins s σ H E I hf st hg
    subst h1 h2 h3
    have ff := hf it one_mem
    have hi : i < es.size := hg.2
    obtain ⟨x, rx⟩ := hv es[i] (Array.getElem_mem_toList hi)
    refine wpAny_pyNext_keys_item_raw st (pin_raw I hg.1 hx ho) hg.2 fun h' st' sb => ?_
    obtain ⟨oi, e1, e2, e3⟩ := id st'
    refine ⟨_, rfl, go_of (s := { s with heap := h' }) e1 e2 e3 (by decide) ⟨x, H, I.turned (t' := s.toks) (fun b ob hb e => (sb.2 b hb).trans e) ff.1 ff.2.1 ff.2.2.2.1 ff.2.2.2.2.1 ff.2.2.2.2.2, rx, ⟨rfl, _, Array.getElem?_eq_getElem hg.2, rx⟩, st', fun b hb => (hf b hb).1⟩⟩
  done := by
    intro X h1 h2 h3 hc i pins s σ H E I hf st hg
    subst h1 h2 h3
    have ff := hf it one_mem
    exact wpAny_pyNext_keys_end_raw (I.ok.hd hc) st (pin_raw I hg.1 hx ho) hg.2 fun h' eb => ⟨rfl, I.turned (t' := s.toks) (fun b ob hb e => eb b ob hb e) ff.1 ff.2.1 ff.2.2.2.1 ff.2.2.2.2.1 ff.2.2.2.2.2⟩
  self := fun A i s Q E st h => wpAny_pyIter_keyiter st h
theorem turn_w (it : Addr) (hx : o.ExactDict) (ho : o.data = .dict es ep) (hv : ∀ en ∈ es.toList, ∃ x, RelV x en.val) : Turn P w K tg (Itw d o es) [it] it (fun i h => h.IsValIter it d i es.size ep) where
  mem := one_mem
  obj := by
    intro i h st b hb
    rw [one_of hb]
    obtain ⟨oi, e1, _, e2⟩ := st
    refine ⟨oi, e1, fun v z => ?_⟩
    rw [e2] at z
    cases z
  keep := fun i h h' st k => by
    obtain ⟨oi, e1, e2⟩ := st
    exact ⟨oi, k it one_mem oi e1, e2⟩
  item := by
    intro X h1 h2 h3 hc i pins s σ H E I hf st hg
    subst h1 h2 h3
    have ff := hf it one_mem
    have hi : i < es.size := hg.2
    obtain ⟨x, rx⟩ := hv es[i] (Array.getElem_mem_toList hi)
    refine wpAny_pyNext_values_item_raw st (pin_raw I hg.1 hx ho) hg.2 fun h' st' sb => ?_
    obtain ⟨oi, e1, e2, e3⟩ := id st'
    refine ⟨_, rfl, go_of (s := { s with heap := h' }) e1 e2 e3 (by decide) ⟨x, H, I.turned (t' := s.toks) (fun b ob hb e => (sb.2 b hb).trans e) ff.1 ff.2.1 ff.2.2.2.1 ff.2.2.2.2.1 ff.2.2.2.2.2, rx, ⟨rfl, _, Array.getElem?_eq_getElem hg.2, rx⟩, st', fun b hb => (hf b hb).1⟩⟩
  done := by
    intro X h1 h2 h3 hc i pins s σ H E I hf st hg
    subst h1 h2 h3
    have ff := hf it one_mem
    exact wpAny_pyNext_values_end_raw (I.ok.hd hc) st (pin_raw I hg.1 hx ho) hg.2 fun h' eb => ⟨rfl, I.turned (t' := s.toks) (fun b ob hb e => eb b ob hb e) ff.1 ff.2.1 ff.2.2.2.1 ff.2.2.2.2.1 ff.2.2.2.2.2⟩
  self := fun A i s Q E st h => wpAny_pyIter_valiter st h
theorem turn_p {elts : List Expr} {kk : Nat} {tpos : Pos} (it : Addr) (hx : o.ExactDict) (ho : o.data = .dict es ep) (hv : ∀ en ∈ es.toList, (∃ x, RelV x en.key) ∧ ∃ x, RelV x en.val) :
    Turn P w K (.Tuple elts kk tpos) (Itp d o es) [it] it (fun i h => ∃ ok ov, IsItemIter h it d i es.size ep ok ov) where
  mem := one_mem
  obj := by
    intro i h st b hb
    rw [one_of hb]
    obtain ⟨ok, ov, e⟩ := st
    exact ⟨_, e, fun v z => nomatch z⟩
  keep := fun i h h' st k => by
    obtain ⟨ok, ov, e⟩ := st
    exact ⟨ok, ov, k it one_mem _ e⟩
  item := by
    intro X h1 h2 h3 hc i pins s σ H E I hf st hg
    subst h1 h2 h3
    have hi : i < es.size := hg.2
    obtain ⟨⟨kx, rk⟩, vx, rv⟩ := hv es[i] (Array.getElem_mem_toList hi)
    obtain ⟨ok, ov, he⟩ := st
    have lt : it < s.heap.objs.size := Heap.lt_size he
    refine wpAny_pyNext_items_item_raw he (pin_raw I hg.1 hx ho) hg.2 fun h' ho' hT hz hk => ?_
    refine ⟨_, rfl, wpAny_letOwnedTupleGo_items (s := { s with heap := h' }) ho' fun h2 he2 sb => ?_⟩
    have new : ObjOk X.prog X.w (upd H s.heap.objs.size (.tup [kx, vx])) h2 s.heap.objs.size (.tup [kx, vx]) :=
      ⟨by show 2 ≤ sizeLine; decide, [es[i].key, es[i].val], .cons rk (.cons rv .nil), ⟨_, (sb.2 _ (Nat.ne_of_gt lt)).trans hT, rfl, _, rfl⟩⟩
    have I1 := I.turnedNew (h' := h2) (t' := s.toks) (ch := [it]) (fun b ob hb e => (sb.2 b fun z => hb (by rw [z]; exact one_mem)).trans (hk b ob (fun z => hb (by rw [z]; exact one_mem)) e)) hf (Nat.le_refl _) new
    refine ⟨.ref s.heap.objs.size, _, I1, rfl, ⟨_, es[i], kx, vx, Array.getElem?_eq_getElem hg.2, rk, rv, rfl, I.hok.fresh (Nat.le_refl _), rfl⟩, ⟨_, _, he2⟩, fun b hb => ?_⟩
    rw [one_of hb, upd_ne (Nat.ne_of_lt lt)]
    exact (hf it one_mem).1
  done := by
    intro X h1 h2 h3 hc i pins s σ H E I hf st hg
    subst h1 h2 h3
    have ff := hf it one_mem
    obtain ⟨ok, ov, he⟩ := st
    exact wpAny_pyNext_items_end_raw (I.ok.hd hc) he (pin_raw I hg.1 hx ho) hg.2 fun h' eb => ⟨rfl, I.turned (t' := s.toks) (fun b ob hb e => eb b ob hb e) ff.1 ff.2.1 ff.2.2.2.1 ff.2.2.2.2.1 ff.2.2.2.2.2⟩
  self := fun A i s Q E st h => by
    obtain ⟨_, _, e⟩ := st
    exact PySem.W.kcp_self e h
/-- a dict that is known to the object -/
structure Dk (H : Hp) (d : Addr) (o : Obj) (es : Array DictEntry) (ep : Nat) : Prop where
  at_ : H d = some (pin d o)
  ex : o.ExactDict
  dat : o.data = .dict es ep
  sys : (d == sysModules) = false
  kv : ∀ en ∈ es.toList, (∃ x, RelV x en.key) ∧ ∃ x, RelV x en.val
theorem it_dict : ItV X tg (fun x H R => ∃ d o es ep, x = .ref d ∧ Dk H d o es ep ∧ R (Itq d o es) H) := by
  rintro pins s σ H x v R I r ⟨d, o, es, ep, rfl, D, q⟩
  cases r
  exact wpAny_pyIter_dict_raw D.sys (pin_raw I D.at_ D.ex D.dat) (pi_one (tk := s.toks) I _ (turn_q _ D.ex D.dat fun en h => (D.kv en h).1) ⟨_, Heap.get?_push_size _ rfl, rfl, rfl⟩ q)
theorem noDict_of {s : Shared} (h : s.heap.DictRaw d es ep) : ∀ b, Value.ref d = .ref b → ∃ ob, s.heap.get? b = some ob ∧ ob.dict = none := by
  intro b e
  cases e
  obtain ⟨ob, e1, e2, _⟩ := h
  exact ⟨ob, e1, e2.2.1⟩
theorem pi_itemsR {elts : List Expr} {kk : Nat} {tpos : Pos} {t : TE} (he : PE X xa t) (hbase : attributeBase xa "items" X.env (eval xa X.env) = eval xa X.env) (hline : (apos.endLine == cpos.line) = true) :
    PI X (.Tuple elts kk tpos) (.Call (.Attribute xa "items" apos) [] [] cpos) (fun σ H R => t σ H fun x H1 => ∃ d o es ep, x = .ref d ∧ Dk H1 d o es ep ∧ R (Itp d o es) H1) := by
  constructor
  intro pins s σ H R I h
  refine wpAny_Call_method (T := "dict") (id := "dict.items") hbase rfl hline F.plainAttrs_dict F.slot_dict_items F.type_dict_items (thn (he.run pins s σ H _ I h) ?_)
  rintro u s1 ⟨x, H1, I1, rx, d, o, es, ep, rfl, D, q⟩
  cases rx
  have raw := pin_raw I1 D.at_ D.ex D.dat
  refine ⟨raw.typeIs, noDict_of raw, ?_⟩
  have I2 : Inv X pins σ H1 { s1 with heap := s1.heap.push { cls := .type "dict_items", data := .fields #[.ref d] } } := I1.kept (t' := s1.toks) fun b ob e => Heap.get?_push_of_some _ e
  refine method_meetsIn F.slot_dict_items F.entry_dict_items rfl (PySem.evalArgs_none ⟨rfl, raw.typeIs, F.args_dict_items_1 _, _, meets_dict_items_raw d D.sys, ⟨_, _, raw⟩, ?_⟩)
  exact wpAny_pyIter_items_raw (d := d) ⟨_, Heap.get?_push_size _ rfl, rfl, rfl⟩ (raw.at fun ob e => Heap.get?_push_of_some _ e) (pi_one (tk := s1.toks) I2 _ (turn_p _ D.ex D.dat D.kv) ⟨.none, .none, Heap.get?_push_size _ rfl⟩ q)
theorem pi_valuesR {t : TE} (he : PE X xa t) (hbase : attributeBase xa "values" X.env (eval xa X.env) = eval xa X.env) (hline : (apos.endLine == cpos.line) = true) :
    PI X tg (.Call (.Attribute xa "values" apos) [] [] cpos) (fun σ H R => t σ H fun x H1 => ∃ d o es ep, x = .ref d ∧ Dk H1 d o es ep ∧ R (Itw d o es) H1) := by
  constructor
  intro pins s σ H R I h
  refine wpAny_Call_method (T := "dict") (id := "dict.values") hbase rfl hline F.plainAttrs_dict F.slot_dict_values F.type_dict_values (thn (he.run pins s σ H _ I h) ?_)
  rintro u s1 ⟨x, H1, I1, rx, d, o, es, ep, rfl, D, q⟩
  cases rx
  have raw := pin_raw I1 D.at_ D.ex D.dat
  refine ⟨raw.typeIs, noDict_of raw, ?_⟩
  have I2 : Inv X pins σ H1 { s1 with heap := s1.heap.push { cls := .type "dict_values", data := .fields #[.ref d] } } := I1.kept (t' := s1.toks) fun b ob e => Heap.get?_push_of_some _ e
  refine method_meetsIn F.slot_dict_values F.entry_dict_values rfl (PySem.evalArgs_none ⟨rfl, raw.typeIs, F.args_dict_values_1 _, _, meets_dict_values_raw d D.sys, ⟨_, _, raw⟩, ?_⟩)
  exact wpAny_pyIter_values_raw (d := d) ⟨_, Heap.get?_push_size _ rfl, rfl, rfl⟩ (raw.at fun ob e => Heap.get?_push_of_some _ e) (pi_one (tk := s1.toks) I2 _ (turn_w _ D.ex D.dat fun en h => (D.kv en h).2) ⟨_, Heap.get?_push_size _ rfl, rfl, rfl⟩ q)
theorem pi_keysR {t : TE} (he : PE X xa t) (hbase : attributeBase xa "keys" X.env (eval xa X.env) = eval xa X.env) (hline : (apos.endLine == cpos.line) = true) :
    PI X tg (.Call (.Attribute xa "keys" apos) [] [] cpos) (fun σ H R => t σ H fun x H1 => ∃ d o es ep, x = .ref d ∧ Dk H1 d o es ep ∧ R (Itq d o es) H1) := by
  constructor
  intro pins s σ H R I h
  refine wpAny_Call_method (T := "dict") (id := "dict.keys") hbase rfl hline F.plainAttrs_dict F.slot_dict_keys F.type_dict_keys (thn (he.run pins s σ H _ I h) ?_)
  rintro u s1 ⟨x, H1, I1, rx, d, o, es, ep, rfl, D, q⟩
  cases rx
  have raw := pin_raw I1 D.at_ D.ex D.dat
  refine ⟨raw.typeIs, noDict_of raw, ?_⟩
  have I2 : Inv X pins σ H1 { s1 with heap := s1.heap.push { cls := .type "dict_keys", data := .fields #[.ref d] } } := I1.kept (t' := s1.toks) fun b ob e => Heap.get?_push_of_some _ e
  refine method_meetsIn F.slot_dict_keys F.entry_dict_keys rfl (PySem.evalArgs_none ⟨rfl, raw.typeIs, F.args_dict_keys_1 _, _, meets_dict_keys_raw d D.sys, ⟨_, _, raw⟩, ?_⟩)
  exact wpAny_pyIter_keys_raw (d := d) ⟨_, Heap.get?_push_size _ rfl, rfl, rfl⟩ (raw.at fun ob e => Heap.get?_push_of_some _ e) (pi_one (tk := s1.toks) I2 _ (turn_q _ D.ex D.dat fun en h => (D.kv en h).1) ⟨_, Heap.get?_push_size _ rfl, rfl, rfl⟩ q)
end
end DS
/-! DS8f: what is walked, as data; loops; comprehensions. -/
namespace DS
open PySem PySem.Spec PyProof.Rows L2
section
variable {C : Kx} {B : Bs} {Z Z' : Addr → Prop} {H H' : Hp} {e : Ev} {σ : Sl} {T : Tm}
/-- the world as it stands is taken for the ground -/
theorem Wd.rebase (w : Wd C B Z H σ e T) : ∃ B', B'.io = B.io ∧ Wd C B' Z H σ e T ∧ ∀ {Z2 : Addr → Prop} {H2 : Hp} {σ2 : Sl} {e2 : Ev} {T2 : Tm}, Wd C B' Z2 H2 σ2 e2 T2 → Wd C B Z2 H2 σ2 e2 T2 ∧ Kp Z Z2 H H2 := by
  obtain ⟨F, G, h1, h2, h3, h4⟩ := w.ex
  have own : ∀ a ∈ F ++ G, ∃ u, H a = some u ∧ ∀ xs, u ≠ .tup xs := by
    intro a ha
    rcases List.mem_append.mp ha with q | q
    · exact h1.own a q
    · exact h2.own a q
  refine ⟨⟨H, Z, F ++ G, B.io⟩, rfl, ⟨⟨F, G, h1, h2, h3, fun a ha => ⟨(h4 a ha).1, .inr ha⟩⟩, w.zs, fun a z => z, fun a z => .inl z, fun a o q _ => q, w.io⟩, ?_⟩
  intro Z2 H2 σ2 e2 T2 w2
  have up : ∀ a, (H a = none ∨ a ∈ F ++ G) → B.mine a := by
    rintro a (q | q)
    · cases q2 : B.H0 a with
      | none => exact .inl q2
      | some o =>
        by_cases q3 : a ∈ B.F0
        · exact .inr q3
        · have := w.fr a o q2 q3
          rw [q] at this
          cases this
    · exact (h4 a q).2
  refine ⟨⟨?_, w2.zs, fun a z => w2.z0 a (w.z0 a z), fun a z => ?_, fun a o q hf => ?_, w2.io⟩, ⟨fun a z => w2.z0 a z, fun a z => ?_, fun a xs q => ?_⟩⟩
  · obtain ⟨F2, G2, k1, k2, k3, k4⟩ := w2.ex
    exact ⟨F2, G2, k1, k2, k3, fun a ha => ⟨(k4 a ha).1, up a (k4 a ha).2⟩⟩
  · rcases w2.z1 a z with z | z
    · exact w.z1 a z
    · exact .inr (up a z)
  · refine w2.fr a o (w.fr a o q hf) fun hm => ?_
    rcases (h4 a hm).2 with q2 | q2
    · rw [q] at q2; cases q2
    · exact hf q2
  · obtain ⟨o, q⟩ := w.zs a z
    rw [q]
    exact w2.fr a o q fun hm => (h4 a hm).1 z
  · exact w2.fr a _ q fun hm => by
      obtain ⟨u, q1, q2⟩ := own a hm
      rw [q] at q1
      cases q1
      exact q2 _ rfl
theorem Slots.congr : ∀ {e : Ev} {σ σ' : Sl} {F : List Addr}, σ'.length = σ.length → (∀ (j : Nat) (o : O), e[j]? = some (some o) → σ'[j]? = σ[j]?) → Slots C Z H e σ F → Slots C Z H e σ' F
  | [], [], [], _, _, _, h => h
  | none :: e, _ :: σ, _ :: σ', F, hl, hs, h => Slots.congr (e := e) (by simpa using hl) (fun j o q => by simpa using hs (j + 1) o (by simpa using q)) h
  | some o :: e, s :: σ, s' :: σ', F, hl, hs, h => by
    obtain ⟨v, F1, F2, rfl, rfl, h1, h2⟩ := h
    have h0 := hs 0 o rfl
    simp only [List.getElem?_cons_zero, Option.some.injEq] at h0
    exact ⟨v, F1, F2, h0, rfl, h1, Slots.congr (e := e) (by simpa using hl) (fun j o q => by simpa using hs (j + 1) o (by simpa using q)) h2⟩
  | [], _ :: _, _, _, _, _, h => h.elim
  | none :: _, [], _, _, _, _, h => h.elim
  | some _ :: _, [], _, _, _, _, h => h.elim
  | _, [], _ :: _, _, hl, _, _ => by simp at hl
  | _, _ :: _, [], _, hl, _, _ => by simp at hl
/-- the slots that hold nothing are free -/
theorem Wd.anyS {σ' : Sl} (w : Wd C B Z H σ e T) (hl : σ'.length = σ.length) (hs : ∀ (j : Nat) (o : O), e[j]? = some (some o) → σ'[j]? = σ[j]?) (hi : ∀ p ∈ B.io, σ'[p.1]? = σ[p.1]?) : Wd C B Z H σ' e T := by
  obtain ⟨F, G, h1, h2⟩ := w.ex
  exact ⟨⟨F, G, h1.congr hl hs, h2⟩, w.zs, w.z0, w.z1, w.fr, fun p hp => (hi p hp).trans (w.io p hp)⟩
theorem wipeE_len : ∀ {vs : List Nat}, (wipeE e vs).length = e.length
  | [] => rfl
  | i :: vs => by simp only [wipeE, List.length_set]; exact wipeE_len
theorem wipeE_get {j : Nat} : ∀ {vs : List Nat}, (wipeE e vs)[j]? = if j ∈ vs then (e[j]?).map (fun _ => none) else e[j]?
  | [] => by simp [wipeE]
  | i :: vs => by
    simp only [wipeE, List.getElem?_set, wipeE_len]
    by_cases h1 : i = j
    · subst h1
      by_cases h2 : i < e.length
      · simp [h2]
      · simp [h2, List.getElem?_eq_none (Nat.le_of_not_lt h2)]
    · have h3 : ¬ j = i := fun h => h1 h.symm
      simp only [h1, if_false, List.mem_cons, h3, false_or]
      exact wipeE_get
theorem wipe_get {j : Nat} : ∀ {vs : List Nat}, (wipe σ vs)[j]? = if j ∈ vs then (σ[j]?).map (fun _ => none) else σ[j]?
  | [] => by simp [wipe]
  | i :: vs => by
    simp only [wipe, List.getElem?_set, wipe_length]
    by_cases h1 : i = j
    · subst h1
      by_cases h2 : i < σ.length
      · simp [h2]
      · simp [h2, List.getElem?_eq_none (Nat.le_of_not_lt h2)]
    · have h3 : ¬ j = i := fun h => h1 h.symm
      simp only [h1, if_false, List.mem_cons, h3, false_or]
      exact wipe_get
/-- nothing stands in the slots -/
def Bare (e : Ev) (vs : List Nat) : Prop := ∀ j ∈ vs, ∀ o, e[j]? ≠ some (some o)
theorem bare_wipe {vs : List Nat} : Bare (wipeE e vs) vs := by
  intro j hj o
  rw [wipeE_get, if_pos hj]
  cases e[j]? <;> simp
theorem Bare.set {vs : List Nat} {i : Nat} {x : Option O} (h : Bare e vs) (hi : i ∉ vs) : Bare (e.set i x) vs := by
  intro j hj o
  rw [List.getElem?_set_ne (fun q => hi (by rw [q]; exact hj))]
  exact h j hj o
/-- what stands in the slots is forgotten -/
theorem Wd.wiped : ∀ {vs : List Nat}, Wd C B Z H σ e T → Wd C B Z H σ (wipeE e vs) T
  | [], w => w
  | i :: vs, w => (Wd.wiped (vs := vs) w).forget i
theorem Wd.toWipe {vs : List Nat} (w : Wd C B Z H σ e T) (hb : Bare e vs) (hi : ∀ p ∈ B.io, p.1 ∉ vs) : Wd C B Z H (wipe σ vs) e T := by
  refine w.anyS (wipe_length _ _) (fun j o q => ?_) fun p hp => ?_
  · rw [wipe_get, if_neg fun hm => hb j hm o q]
  · rw [wipe_get, if_neg (hi p hp)]
theorem Wd.ofWipe {vs : List Nat} (w : Wd C B Z H (wipe σ vs) e T) (hb : Bare e vs) (hi : ∀ p ∈ B.io, p.1 ∉ vs) : Wd C B Z H σ e T := by
  refine w.anyS (wipe_length _ _).symm (fun j o q => ?_) fun p hp => ?_
  · rw [wipe_get, if_neg fun hm => hb j hm o q]
  · rw [wipe_get, if_neg (hi p hp)]
theorem backE_len {e0 : Ev} : ∀ {vs : List Nat}, (backE e0 e vs).length = e.length
  | [] => rfl
  | i :: vs => by simp only [backE, List.length_set]; exact backE_len
theorem backE_set {e0 : Ev} {i : Nat} {x : Option O} : ∀ {vs : List Nat}, i ∉ vs → backE e0 (e.set i x) vs = (backE e0 e vs).set i x
  | [], _ => rfl
  | j :: vs, h => by
    simp only [List.mem_cons, not_or] at h
    simp only [backE, backE_set h.2]
    rw [List.set_comm _ _ h.1]
theorem backE_get {e0 : Ev} {i : Nat} : ∀ {vs : List Nat}, i ∉ vs → (backE e0 e vs)[i]? = e[i]?
  | [], _ => rfl
  | j :: vs, h => by
    simp only [List.mem_cons, not_or] at h
    simp only [backE]
    rw [List.getElem?_set_ne (fun q => h.1 q.symm)]
    exact backE_get h.2
/-- what stands in the slots is laid by -/
theorem Wd.stash : ∀ {vs : List Nat} {T : Tm}, vs.Nodup → Wd C B Z H σ e T → ∃ S : Tm, Wd C B Z H σ (wipeE e vs) (S ++ T) ∧
    ∀ {B2 : Bs} {Z2 : Addr → Prop} {H2 : Hp} {e2 : Ev} {T2 : Tm}, Bare e2 vs → e2.length = e.length → Wd C B2 Z2 H2 σ e2 (S ++ T2) → Wd C B2 Z2 H2 σ (backE e e2 vs) T2
  | [], T, _, w => ⟨[], w, fun _ _ w2 => w2⟩
  | i :: vs, T, nd, w => by
    obtain ⟨hi, nd2⟩ := List.nodup_cons.mp nd
    obtain ⟨S, w1, bk⟩ := Wd.stash (vs := vs) nd2 w
    have hget : (wipeE e vs)[i]? = e[i]? := by rw [wipeE_get, if_neg hi]
    rcases q : e[i]? with _ | _ | o
    · refine ⟨S, ?_, fun hb hl w2 => ?_⟩
      · have hs : (wipeE e vs).set i none = wipeE e vs := List.set_eq_of_length_le (by rw [wipeE_len]; exact List.getElem?_eq_none_iff.mp q)
        simp only [wipeE, hs]
        exact w1
      · simp only [backE, q]
        have hs : ∀ x, (backE e _ vs).set i x = backE e _ vs := fun x => List.set_eq_of_length_le (by rw [backE_len, hl]; exact List.getElem?_eq_none_iff.mp q)
        rw [hs]
        exact bk (fun j hj => hb j (List.mem_cons_of_mem _ hj)) hl w2
    · refine ⟨S, ?_, fun {B2 Z2 H2 e2 T2} hb hl w2 => ?_⟩
      · simp only [wipeE]
        rw [set_same (by rw [hget]; exact q)]
        exact w1
      · simp only [backE, q, Option.getD_some]
        rw [set_same]
        · exact bk (fun j hj => hb j (List.mem_cons_of_mem _ hj)) hl w2
        · rw [backE_get hi]
          have h1 := hb i (List.mem_cons_self ..)
          have h2 : i < e2.length := by rw [hl]; exact (List.getElem?_eq_some_iff.mp q).1
          rw [List.getElem?_eq_getElem h2] at h1 ⊢
          cases h3 : e2[i] with
          | none => rfl
          | some o => exact absurd (by rw [h3]) (h1 o)
    · obtain ⟨v, hv, w3⟩ := w1.take (by rw [hget]; exact q)
      refine ⟨(o, v) :: S, w3, fun {B2 Z2 H2 e2 T2} hb hl w2 => ?_⟩
      simp only [backE, q, Option.getD_some]
      have h2 : i < e2.length := by rw [hl]; exact (List.getElem?_eq_some_iff.mp q).1
      have h3 : e2[i]? = some none := by
        have h1 := hb i (List.mem_cons_self ..)
        rw [List.getElem?_eq_getElem h2] at h1 ⊢
        cases h3 : e2[i] with
        | none => rfl
        | some o => exact absurd (by rw [h3]) (h1 o)
      rw [← backE_set hi]
      exact bk (Bare.set (fun j hj => hb j (List.mem_cons_of_mem _ hj)) hi) (by rw [List.length_set]; exact hl) (Wd.back w2 h3 hv)
end
end DS
/-! DS8g: targets; what is walked. -/
namespace DS
open PySem PySem.Spec PyProof.Rows L2
mutual
/-- the names of a target -/
def Tg.ns : Tg → List Nat
  | .n i => [i]
  | .t ts => Tg.nss ts
def Tg.nss : List Tg → List Nat
  | [] => []
  | x :: ts => x.ns ++ Tg.nss ts
end
/-- where a store leaves the slots -/
def Only (vs : List Nat) (σ σ' : Sl) : Prop := σ'.length = σ.length ∧ ∀ j, j ∉ vs → σ'[j]? = σ[j]?
def tG (c : Cn) (t : Tg) : TG := fun v σ H Q => ∃ B Z e T d K, Wd c.k B Z H σ e ((.pu d, v) :: T) ∧ bindT t d e K ∧ B.io.map (·.1) = c.io ∧
  ∀ σ' Z' e', DS.Only t.ns σ σ' → Kp Z Z' H H → Wd c.k B Z' H σ' e' T → K e' → Q σ' H
def tGs (c : Cn) (ts : List Tg) : TGs := fun vs σ H Q => ∃ B Z e T ds K, Wd c.k B Z H σ e T ∧ RDs c.k Z H ds vs ∧ bindTs ts ds e K ∧ B.io.map (·.1) = c.io ∧
  ∀ σ' Z' e', DS.Only (Tg.nss ts) σ σ' → Kp Z Z' H H → Wd c.k B Z' H σ' e' T → K e' → Q σ' H
theorem Only.refl {vs : List Nat} {σ : Sl} : DS.Only vs σ σ := ⟨rfl, fun _ _ => rfl⟩
theorem Only.trans {v1 v2 : List Nat} {σ σ1 σ2 : Sl} (a : DS.Only v1 σ σ1) (b : DS.Only v2 σ1 σ2) : DS.Only (v1 ++ v2) σ σ2 :=
  ⟨b.1.trans a.1, fun j hj => by
    rw [List.mem_append, not_or] at hj
    exact (b.2 j hj.2).trans (a.2 j hj.1)⟩
theorem Only.wipe {vs ws : List Nat} {σ σ' : Sl} (a : DS.Only vs σ σ') (h : ∀ j ∈ vs, j ∈ ws) : L2.wipe σ' ws = L2.wipe σ ws := by
  refine List.ext_getElem? fun j => ?_
  rw [wipe_get, wipe_get]
  by_cases hj : j ∈ ws
  · rw [if_pos hj, if_pos hj]
    by_cases hl : j < σ.length
    · rw [List.getElem?_eq_getElem hl, List.getElem?_eq_getElem (by rw [a.1]; exact hl)]; rfl
    · rw [List.getElem?_eq_none (Nat.le_of_not_lt hl), List.getElem?_eq_none (by rw [a.1]; exact Nat.le_of_not_lt hl)]
  · rw [if_neg hj, if_neg hj]
    exact a.2 j fun h' => hj (h j h')
section
variable {c : Cn} {lv : Nat} {sc : Scope} {fb : Str → Bool} {N : List Str} {X : Cx} {W : WX} {xa xb xc : Expr} {rest : List Expr} {p pos : Pos} {a b d : E}
def locB (sc : Scope) (x : Str) : Bool := match sc.names.lookup x with
  | some .local => true
  | some .cell => true
  | _ => false
theorem loc_of {x : Str} (h : locB sc x = true) : Loc sc x := by
  unfold locB at h
  split at h
  · exact .inl (by assumption)
  · exact .inr (by assumption)
  · cases h
def stoB (sc : Scope) (fb : Str → Bool) (x : Str) : Bool := locB sc x && (fb x || (match sc.names.lookup x with | some .local => true | _ => false))
theorem sto_of {x : Str} (g : Fit c lv sc fb N X W) (h : stoB sc fb x = true) : Loc X.env.scope x ∧ (X.fn x = true ∨ X.env.scope.names.lookup x = some .local) := by
  unfold stoB at h
  simp only [Bool.and_eq_true, Bool.or_eq_true] at h
  obtain ⟨h1, h2⟩ := h
  rw [g.hsc, g.fnc]
  refine ⟨loc_of h1, ?_⟩
  rcases h2 with h2 | h2
  · exact .inl h2
  · right
    split at h2
    · assumption
    · cases h2
theorem Wd.setAt {C : Kx} {B : Bs} {Z : Addr → Prop} {H : Hp} {e : Ev} {σ : Sl} {T : Tm} {i : Nat} {o : O} {v : V} (w : Wd C B Z H σ e ((o, v) :: T)) (hi : i < σ.length) (hio : i ∉ B.io.map (·.1)) : Wd C B Z H (σ.set i (some v)) (e.set i (some o)) T := by
  have h1 := (w.forget i).store (i := i) (by rw [List.getElem?_set_self (by rw [w.len]; exact hi)]) fun p hp e => hio (List.mem_map.mpr ⟨p, hp, e⟩)
  rwa [List.set_set] at h1
theorem g_name {i : Nat} {y : Str} (g : Fit c lv sc fb N X W) (hN : N[i]? = some y) (hs : stoB sc fb y = true) (hio : i ∉ c.io) : PG X (.Name y p) (tG c (.n i)) := by
  obtain ⟨h1, h2⟩ := sto_of g hs
  have hN2 : X.N[i]? = some y := by rw [g.hN]; exact hN
  constructor
  intro pins s σ H v u Q I r ⟨B, Z, e, T, d, K, wd, hb, he, hq⟩
  refine (pg_name (by rw [g.hN]; exact g.nd) hN2 h1 h2).run pins s σ H v u Q I r ?_
  have hi : i < σ.length := by rw [I.len]; exact (List.getElem?_eq_some_iff.mp hN2).1
  unfold bindT at hb
  refine hq _ Z _ ⟨List.length_set, fun j hj => ?_⟩ .refl (wd.setAt hi (by rw [he]; exact hio)) hb
  rw [List.getElem?_set_ne (fun q => hj (by simp [Tg.ns, q]))]
theorem g_nil : PGs X [] (tGs c []) := by
  constructor
  intro pins s σ H vs us Q I r ⟨B, Z, e, T, ds, K, wd, rd, hb, he, hq⟩
  refine pgs_nil.run pins s σ H vs us Q I r ?_
  unfold bindTs at hb
  obtain ⟨rfl, hb⟩ := hb
  simp only [RDs] at rd
  subst rd
  exact ⟨rfl, hq σ Z e .refl .refl wd hb⟩
def tgB : Expr → Bool
  | .Starred _ _ => false
  | _ => true
theorem assignEach_of {x : Expr} {xs : List Expr} (h : tgB x = true) (env : Env) : assignEach (x :: xs) env = (false, assign x env) :: assignEach xs env := by
  cases x <;> first | rfl | cases h
theorem g_cons {t : Tg} {ts : List Tg} {x : Expr} {xs : List Expr} (h1 : PG X x (tG c t)) (h2 : PGs X xs (tGs c ts)) (hs : tgB x = true) : PGs X (x :: xs) (tGs c (t :: ts)) := by
  constructor
  intro pins s σ H vs us Q I r ⟨B, Z, e, T, ds, K, wd, rd, hb, he, hq⟩
  refine (pgs_cons h1 h2 (by rw [assignEach_of hs]; rfl)).run pins s σ H vs us Q I r ?_
  unfold bindTs at hb
  obtain ⟨d1, dr, rfl, hb⟩ := hb
  simp only [RDs] at rd
  obtain ⟨v1, vr, rfl, rd1, rdr⟩ := rd
  refine ⟨v1, vr, rfl, B, Z, e, T, d1, _, wd.push rd1, hb, he, fun σ1 Z1 e1 o1 k1 w1 kk => ?_⟩
  refine ⟨B, Z1, e1, T, dr, K, w1, rdr.keep k1, kk, he, fun σ2 Z2 e2 o2 k2 w2 kk2 => ?_⟩
  exact hq σ2 Z2 e2 (by simp only [Tg.nss]; exact o1.trans o2) (k1.trans k2) w2 kk2
mutual
theorem bindT_some : ∀ {t : Tg} {d : D} {e : Ev} {K : Ev → Prop}, bindT t d e K → ∃ e1, K e1
  | .n i, d, e, K, h => ⟨_, by unfold bindT at h; exact h⟩
  | .t ts, d, e, K, h => by
    unfold bindT at h
    obtain ⟨ds, _, h⟩ := h
    exact (bindTs_some h).2
theorem bindTs_some : ∀ {ts : List Tg} {ds : List D} {e : Ev} {K : Ev → Prop}, bindTs ts ds e K → ds.length = ts.length ∧ ∃ e1, K e1
  | [], ds, e, K, h => by
    unfold bindTs at h
    exact ⟨by rw [h.1]; rfl, _, h.2⟩
  | t :: ts, ds, e, K, h => by
    unfold bindTs at h
    obtain ⟨d, r, rfl, h⟩ := h
    obtain ⟨e1, h1⟩ := bindT_some h
    obtain ⟨h2, h3⟩ := bindTs_some h1
    exact ⟨by simp [h2], h3⟩
end
theorem each_len {xs : List Expr} (h : xs.all tgB = true) (env : Env) : (assignEach xs env).length = xs.length ∧ (assignEach xs env).findIdx? (·.1) = none := by
  induction xs with
  | nil => exact ⟨rfl, rfl⟩
  | cons x xs ih =>
    simp only [List.all_cons, Bool.and_eq_true] at h
    obtain ⟨h1, h2⟩ := ih h.2
    rw [assignEach_of h.1]
    refine ⟨by simp [h1], ?_⟩
    simp [List.findIdx?_cons, h2]
theorem g_tup {ts : List Tg} {xs : List Expr} {k : Nat} (g : Fit c lv sc fb N X W) (hs : PGs X xs (tGs c ts)) (hx : xs.all tgB = true) (hl : xs.length = ts.length) : PG X (.Tuple xs k pos) (tG c (.t ts)) := by
  constructor
  intro pins s σ H v u Q I r ⟨B, Z, e, T, d, K, wd, hb, he, hq⟩
  obtain ⟨l1, l2⟩ := each_len hx X.env
  refine (pg_tup g.calm hs l1 l2).run pins s σ H v u Q I r ?_
  unfold bindT at hb
  obtain ⟨ds, rfl, hb⟩ := hb
  obtain ⟨q, vs, rfl, hH, rd⟩ := wd.head.tup'
  refine ⟨q, vs, rfl, .of hH, ?_, B, Z, e, T, ds, K, wd.drop, rd, hb, he, fun σ' Z' e' o1 => hq σ' Z' e' (by simpa only [Tg.ns] using o1)⟩
  rw [rd.len, (bindTs_some hb).1, hl]
/-! ### what is walked, as data -/
/-- the iterator J walks the items, whatever else changes -/
def Walks (c : Cn) (Z0 : Addr → Prop) (H0 : Hp) (J : It) (items : List D) : Prop :=
  ∀ {B : Bs} {Z : Addr → Prop} {H : Hp} {σ : Sl} {e : Ev} {T : Tm} (i : Nat), Kp Z0 Z H0 H → Wd c.k B Z H σ e T →
    (i < items.length → J.go i H) ∧ (items.length ≤ i → J.stop i H) ∧ (i < items.length → ∀ x H', J.yld i H x H' → ∃ d, items[i]? = some d ∧ Kp Z Z H H' ∧ Wd c.k B Z H' σ e ((.pu d, x) :: T))
def tI (c : Cn) (W : WX) (k : Src) (es : List E) : TI := fun σ H R => ∃ B Z e T, ∃ (K : List D → Ev → Prop) (R' : Xp → Ev → Prop), Wd c.k B Z H σ e T ∧ wEs c.Γ es e (fun os e1 => srcW k (os.map O.fz) fun items => K items e1) R' ∧
  (∀ J Z' H' e' items, Walks c Z' H' J items → Wd c.k B Z' H' σ e' T → K items e' → R J H') ∧ ExTo c B R' W
theorem PI.imp {tg : Expr} {x : Expr} {t t' : TI} (h : PI X tg x t) (i : ∀ σ H R, t' σ H R → t σ H R) : PI X tg x t' := ⟨fun pins s σ H R I q => h.run pins s σ H R I (i σ H R q)⟩
theorem walk_list {Z : Addr → Prop} {H : Hp} {xs : List D} {vs : List V} {a : Addr} {K : PySem.W.Frag} (hz : ∀ Z2 H2, Kp Z Z2 H H2 → SqL K H2 a vs) (rd : RDs c.k Z H xs vs) : Walks c Z H (Itl K a) xs := by
  intro B Z2 H2 σ e T i kp w
  have h := hz Z2 H2 kp
  have hl := rd.len
  refine ⟨fun hi => ?_, fun hi => ⟨vs, h, by rw [hl]; exact hi⟩, fun hi x H' hy => ?_⟩
  · have : i < vs.length := by rw [hl]; exact hi
    exact ⟨vs, vs[i], h, List.getElem?_eq_getElem this⟩
  · obtain ⟨rfl, hy⟩ := hy
    have hx := hy vs h
    obtain ⟨v, hv, r⟩ := (rd.keep kp).get (List.getElem?_eq_getElem hi)
    rw [hx] at hv
    cases hv
    exact ⟨_, List.getElem?_eq_getElem hi, .refl, w.push r⟩
theorem walk_lst {Z : Addr → Prop} {H : Hp} {xs : List D} {v : V} {K : PySem.W.Frag} (r : RD c.k Z H (.lst xs) v) : ∃ a vs, v = .ref a ∧ SqL K H a vs ∧ Walks c Z H (Itl K a) xs := by
  obtain ⟨a, vs, rfl, hz, hH, rd⟩ := r.lst'
  exact ⟨a, vs, rfl, .of hH, walk_list (fun Z2 H2 kp => .of ((kp.h a hz).trans hH)) rd⟩
theorem walk_tup {Z : Addr → Prop} {H : Hp} {xs : List D} {v : V} {K : PySem.W.Frag} (r : RD c.k Z H (.tup xs) v) : ∃ a vs, v = .ref a ∧ SqT K H a vs ∧ Walks c Z H (Itt K a) xs := by
  obtain ⟨a, vs, rfl, hH, rd⟩ := r.tup'
  refine ⟨a, vs, rfl, .of hH, ?_⟩
  intro B Z2 H2 σ e T i kp w
  have h : SqT K H2 a vs := .of (kp.t a vs hH)
  have hl := rd.len
  refine ⟨fun hi => ?_, fun hi => ⟨vs, h, by rw [hl]; exact hi⟩, fun hi x H' hy => ?_⟩
  · have : i < vs.length := by rw [hl]; exact hi
    exact ⟨vs, vs[i], h, List.getElem?_eq_getElem this⟩
  · obtain ⟨rfl, hy⟩ := hy
    have hx := hy vs h
    obtain ⟨v, hv, r⟩ := (rd.keep kp).get (List.getElem?_eq_getElem hi)
    rw [hx] at hv
    cases hv
    exact ⟨_, List.getElem?_eq_getElem hi, .refl, w.push r⟩
theorem walk_str {Z : Addr → Prop} {H : Hp} {z : Str} : Walks c Z H (Its z) (z.cps.toList.map fun k => .str ⟨#[k]⟩) := by
  intro B Z2 H2 σ e T i kp w
  simp only [List.length_map, Array.length_toList]
  refine ⟨fun hi => hi, fun hi => hi, fun hi x H' hy => ?_⟩
  obtain ⟨rfl, k, hk, rfl⟩ := hy
  exact ⟨.str ⟨#[k]⟩, by rw [List.getElem?_map, Array.getElem?_toList, hk]; rfl, .refl, w.pStr _⟩
theorem walk_rng {Z : Addr → Prop} {H : Hp} {lo : Int} {n : Nat} : Walks c Z H (Itr lo n) ((List.range n).map fun (i : Nat) => .int (lo + (i : Int))) := by
  intro B Z2 H2 σ e T i kp w
  simp only [List.length_map, List.length_range]
  refine ⟨fun hi => hi, fun hi => hi, fun hi x H' hy => ?_⟩
  obtain ⟨rfl, rfl⟩ := hy
  exact ⟨.int (lo + i), by rw [List.getElem?_map, List.getElem?_range hi]; rfl, .refl, w.pInt _⟩
theorem dk_of {Z : Addr → Prop} {H : Hp} {kvs : List (D × D)} {v : V} (r : RD c.k Z H (.dct kvs) v) : ∃ a o es ep, v = .ref a ∧ Z a ∧ Dk H a o es ep ∧ RDk c.k Z H kvs es.toList := by
  simp only [RD] at r
  obtain ⟨a, o, es, ep, e, z, h1, h2, h3, h4, h5, h6, h7⟩ := r
  refine ⟨a, o, es, ep, e, z, ⟨h1, h3, h4, h2, fun en hen => ?_⟩, h7⟩
  obtain ⟨i, hi⟩ := List.mem_iff_getElem?.mp hen
  obtain ⟨k, d, vk, vv, _, q1, _, q2, _⟩ := h7.get.2 i en hi
  exact ⟨⟨vk, q1⟩, vv, q2⟩
theorem walk_q {Z : Addr → Prop} {H : Hp} {kvs : List (D × D)} {a : Addr} {o : Obj} {es : Array DictEntry} {ep : Nat} (z : Z a) (dk : Dk H a o es ep) (rd : RDk c.k Z H kvs es.toList) : Walks c Z H (Itq a o es) (kvs.map (·.1)) := by
  intro B Z2 H2 σ e T i kp w
  obtain ⟨hl, hg⟩ := (rd.keep kp).get
  rw [Array.length_toList] at hl
  simp only [List.length_map]
  refine ⟨fun hi => ⟨(kp.h a z).trans dk.at_, by rw [hl]; exact hi⟩, fun hi => ⟨(kp.h a z).trans dk.at_, by rw [hl]; exact hi⟩, fun hi x H' hy => ?_⟩
  obtain ⟨rfl, en, hen, rx⟩ := hy
  obtain ⟨k, d, vk, vv, q1, q2, q3, q4, q5⟩ := hg i en (by rw [Array.getElem?_toList]; exact hen)
  cases rx.inj q2
  exact ⟨k, by rw [List.getElem?_map, q1]; rfl, .refl, w.push q3⟩
theorem walk_w {Z : Addr → Prop} {H : Hp} {kvs : List (D × D)} {a : Addr} {o : Obj} {es : Array DictEntry} {ep : Nat} (z : Z a) (dk : Dk H a o es ep) (rd : RDk c.k Z H kvs es.toList) : Walks c Z H (Itw a o es) (kvs.map (·.2)) := by
  intro B Z2 H2 σ e T i kp w
  obtain ⟨hl, hg⟩ := (rd.keep kp).get
  rw [Array.length_toList] at hl
  simp only [List.length_map]
  refine ⟨fun hi => ⟨(kp.h a z).trans dk.at_, by rw [hl]; exact hi⟩, fun hi => ⟨(kp.h a z).trans dk.at_, by rw [hl]; exact hi⟩, fun hi x H' hy => ?_⟩
  obtain ⟨rfl, en, hen, rx⟩ := hy
  obtain ⟨k, d, vk, vv, q1, q2, q3, q4, q5⟩ := hg i en (by rw [Array.getElem?_toList]; exact hen)
  cases rx.inj q4
  exact ⟨d, by rw [List.getElem?_map, q1]; rfl, .refl, w.push q5⟩
theorem walk_p {Z : Addr → Prop} {H : Hp} {kvs : List (D × D)} {a : Addr} {o : Obj} {es : Array DictEntry} {ep : Nat} (z : Z a) (dk : Dk H a o es ep) (rd : RDk c.k Z H kvs es.toList) : Walks c Z H (Itp a o es) (kvs.map fun p => .tup [p.1, p.2]) := by
  intro B Z2 H2 σ e T i kp w
  obtain ⟨hl, hg⟩ := (rd.keep kp).get
  rw [Array.length_toList] at hl
  simp only [List.length_map]
  refine ⟨fun hi => ⟨(kp.h a z).trans dk.at_, by rw [hl]; exact hi⟩, fun hi => ⟨(kp.h a z).trans dk.at_, by rw [hl]; exact hi⟩, fun hi x H' hy => ?_⟩
  obtain ⟨Tp, en, kx, vx, hen, rk, rv, rfl, hn, rfl⟩ := hy
  obtain ⟨k, d, vk, vv, q1, q2, q3, q4, q5⟩ := hg i en (by rw [Array.getElem?_toList]; exact hen)
  cases rk.inj q2
  cases rv.inj q4
  refine ⟨.tup [k, d], by rw [List.getElem?_map, q1]; rfl, kp_upd w.zs hn, w.pTup (ds := [k, d]) ?_ hn⟩
  simp only [RDs]
  exact ⟨_, _, rfl, q3, _, _, rfl, q5, rfl⟩
end
end DS
/-! DS8h: statements' readings; for; comprehensions. -/
namespace DS
open PySem PySem.Spec PyProof.Rows L2
def DTo (c : Cn) (B : Bs) (K : KS) (D : Ends) : Prop :=
  (∀ σ Z H e, Wd c.k B Z H σ e [] → K.nx e → D.nx σ H) ∧ (∀ σ v Z H o e, Wd c.k B Z H σ e [(o, v)] → K.rt o e → D.rt v H) ∧
    (∀ σ Z H e, Wd c.k B Z H σ e [] → K.bk e → D.bk σ H) ∧ ∀ σ Z H e, Wd c.k B Z H σ e [] → K.ct e → D.ct σ H
def tS (c : Cn) (W : WX) (s : S) : TS := fun D σ H => ∃ B Z e K R, Wd c.k B Z H σ e [] ∧ wS c.Γ s e K R ∧ DTo c B K D ∧ ExTo c B R W
def tSs (c : Cn) (W : WX) (ss : List S) : TS := fun D σ H => ∃ B Z e K R, Wd c.k B Z H σ e [] ∧ wSs c.Γ ss e K R ∧ DTo c B K D ∧ ExTo c B R W
section
variable {c : Cn} {lv : Nat} {sc : Scope} {fb : Str → Bool} {N : List Str} {X : Cx} {W : WX} {xa xb xc : Expr} {rest : List Expr} {p pos : Pos} {a b d : E}
theorem drop_at {α : Type} {l : List α} {i : Nat} {x : α} (h : l[i]? = some x) : l.drop i = x :: l.drop (i + 1) := by
  obtain ⟨h1, h2⟩ := List.getElem?_eq_some_iff.mp h
  rw [← h2]
  exact List.drop_eq_getElem_cons h1
theorem s_for {k : Src} {es : List E} {t : Tg} {bd : List S} {tg it : Expr} {body : List Stmt} (hp : PassesOwn (model X.prog X.w) X.A X.env X.xe) (g : Fit c lv sc fb N X W) (hi : PI X tg it (tI c W k es)) (hg : PG X tg (tG c t)) (hb : PSs X body (tSs c W bd))
    (hs : ∀ x, foldedSetIterable it X.env x = pure x) : PS X (.For tg it body [] pos) (tS c W (.fo k es t bd)) := by
  refine PS.imp (ps_for hp g.calm hi hg hb hs) ?_
  rintro D σ H ⟨B, Z, e, K, R, wd, we, ⟨d1, d2, d3, d4⟩, ex⟩
  unfold wS at we
  refine ⟨B, Z, e, [], fun items e1 => loopW (fun d e2 K2 => bindT t d e2 fun e3 => wSs c.Γ bd e3 K2 R) items e1 K, R, wd, we, fun J Z1 H1 e1 items hJ w1 lp => ?_, ex⟩
  obtain ⟨B', hio, w1', up⟩ := w1.rebase
  refine ⟨fun i m σ H => m = items.length - i ∧ i ≤ items.length ∧ ∃ Z e, Wd c.k B' Z H σ e [] ∧ loopW (fun d e2 K2 => bindT t d e2 fun e3 => wSs c.Γ bd e3 K2 R) (items.drop i) e K, ⟨_, rfl, Nat.zero_le _, Z1, e1, w1', lp⟩, ?_⟩
  rintro i m σ2 H2 ⟨rfl, hle, Z2, e2, w2, l2⟩
  obtain ⟨w2b, kp⟩ := up w2
  obtain ⟨j1, j2, j3⟩ := hJ i kp w2
  by_cases hi : i < items.length
  · right
    refine ⟨j1 hi, fun σ' H' => ∃ Z e, Wd c.k B' Z H' σ' e [] ∧ loopW (fun d e2 K2 => bindT t d e2 fun e3 => wSs c.Γ bd e3 K2 R) (items.drop (i + 1)) e K, fun σ' H' ⟨Z', e', w', l'⟩ => ⟨items.length - (i + 1), by omega, rfl, hi, Z', e', w', l'⟩, fun x H' hy => ?_⟩
    obtain ⟨d, hd, k3, w3⟩ := j3 hi x H' hy
    rw [drop_at hd] at l2
    refine ⟨B', _, e2, [], d, _, w3, l2, by rw [hio]; exact ex.1, fun σ4 Z4 e4 _ _ w4 k4 => ?_⟩
    refine ⟨B', Z4, e4, _, R, w4, k4, ⟨fun σ Z H e w q => ⟨Z, e, w, q⟩, fun σ v Z H o e w q => d2 σ v Z H o e (up w).1 q, fun σ Z H e w q => d1 σ Z H e (up w).1 q, fun σ Z H e w q => ⟨Z, e, w, q⟩⟩, by rw [hio]; exact ex.1, fun σ x e Z H cls d w xr q => ex.2 σ x e Z H cls d (up w).1 xr q⟩
  · left
    have hn : items.length ≤ i := Nat.le_of_not_lt hi
    rw [List.drop_eq_nil_of_le hn] at l2
    exact ⟨j2 hn, d1 σ2 Z2 H2 e2 w2b l2⟩
/-! ### comprehensions -/
def tCs (c : Cn) (W : WX) (cs : List E) : TT := fun σ H Q => ∃ B Z e T K, Wd c.k B Z H σ e T ∧ wCs c.Γ cs e K ∧ B.io.map (·.1) = c.io ∧ ∀ Z' H' k e', Wd c.k B Z' H' σ e' T → K k e' → Q k H'
theorem c_nil : PTs X [] (tCs c W []) := by
  constructor
  intro pins s σ H Q I ⟨B, Z, e, T, K, wd, we, _, hq⟩
  refine pts_nil.run pins s σ H Q I ?_
  unfold wCs at we
  exact hq Z H true e wd we
theorem c_one (ha : PT X xa (tT c W a)) : PTs X [xa] (tCs c W [a]) := by
  constructor
  intro pins s σ H Q I ⟨B, Z, e, T, K, wd, we, he, hq⟩
  refine (pts_one ha).run pins s σ H Q I ?_
  unfold wCs at we
  exact ⟨B, Z, e, T, K, fun _ _ => False, wd, we, hq, he, fun _ _ _ _ _ _ _ _ _ h => h.elim⟩
/-- the wish within a comprehension: none -/
def W0 : WX := fun _ _ _ _ => False
theorem exTo0 {B : Bs} (h : B.io.map (·.1) = c.io) : ExTo c B (fun _ _ => False) W0 := ⟨h, fun _ _ _ _ _ _ _ _ _ h => h.elim⟩
theorem Wd.headO {C : Kx} {B : Bs} {Z : Addr → Prop} {H : Hp} {e : Ev} {σ : Sl} {T : Tm} {o : O} {v : V} (w : Wd C B Z H σ e ((o, v) :: T)) : ∃ F, RO C Z H o v F := by
  obtain ⟨F, G, _, h2, _⟩ := w.ex
  simp only [Temps] at h2
  obtain ⟨G1, G2, _, h, _⟩ := h2
  exact ⟨G1, h⟩
theorem comp_read {k : Src} {es : List E} {t : Tg} {cs : List E} {x : E} {vs : List Nat} (hv : vs.Nodup) (hio : ∀ i ∈ vs, i ∉ c.io) (ht : ∀ i ∈ t.ns, i ∈ vs) (σ : Sl) (H : Hp) (Q : VK) (h : tE c W (.comp k es t cs x vs) σ H Q) :
    tLc (tI c W k es) (tG c t) (tCs c W0 cs) (tE c W0 x) vs σ H Q := by
  obtain ⟨B, Z, e, T, K, R, wd, we, q, ex⟩ := h
  unfold wE at we
  refine ⟨B, Z, e, T, _, R, wd, we, fun J Z1 H1 e1 items hJ w1 lp => ?_, ex⟩
  intro L hL
  have hio2 : ∀ p ∈ B.io, p.1 ∉ vs := fun p hp hm => hio _ hm (by rw [← ex.1]; exact List.mem_map.mpr ⟨p, hp, rfl⟩)
  obtain ⟨S, w2, bk⟩ := w1.stash hv
  have w3 := w2.toWipe bare_wipe hio2
  have kp0 := (w3.new hL (.lst [])).1
  have w4 := w3.newOwn hL (u := .lst []) (o := .fl []) (by simp only [RO]; exact ⟨L, [], rfl, rfl, upd_same, by simp only [RDs]⟩)
  obtain ⟨B', hio', w4', up⟩ := w4.rebase
  have hio3 : ∀ p ∈ B'.io, p.1 ∉ vs := by rw [hio']; exact hio2
  generalize hf : (fun (d : D) (e2 : Ev) (K2 : Option D → Ev → Prop) => bindT t d e2 fun e3 => wCs c.Γ cs e3 fun b e4 => if b = true then wE c.Γ false x e4 (fun o e5 => K2 (some o.fz) (wipeE e5 vs)) (fun _ _ => False) else K2 none (wipeE e4 vs)) = f at lp
  have hfe : ∀ d e2 K2, f d e2 K2 = bindT t d e2 fun e3 => wCs c.Γ cs e3 fun b e4 => if b = true then wE c.Γ false x e4 (fun o e5 => K2 (some o.fz) (wipeE e5 vs)) (fun _ _ => False) else K2 none (wipeE e4 vs) := fun _ _ _ => by rw [← hf]
  let Pv : Nat → Hp → Prop := fun i H => ∃ Z e acc, Wd c.k B' Z H (L2.wipe σ vs) e ((.fl acc, .ref L) :: (S ++ T)) ∧ Bare e vs ∧ e.length = e1.length ∧ compW f (items.drop i) acc e fun acc e6 => asK false K (.fl acc) (backE e1 e6 vs)
  have p0 : Pv 0 (upd H1 L (.lst [])) := ⟨Z1, _, [], w4', bare_wipe, wipeE_len, lp⟩
  refine ⟨fun i m H => m = items.length - i ∧ i ≤ items.length ∧ Pv i H, ⟨_, rfl, Nat.zero_le _, p0⟩, ?_⟩
  rintro i m H2 ⟨rfl, hle, Z2, e2, acc, w5, hb, hl, l2⟩
  obtain ⟨w5b, kp⟩ := up w5
  obtain ⟨j1, j2, j3⟩ := hJ i (kp0.trans kp) w5
  by_cases hi : i < items.length
  · right
    refine ⟨j1 hi, fun H' => Pv (i + 1) H', fun H' hP => ⟨items.length - (i + 1), by omega, rfl, hi, hP⟩, fun y H' hy => ?_⟩
    obtain ⟨d, hd, k3, w6⟩ := j3 hi y H' hy
    rw [drop_at hd] at l2
    unfold compW at l2
    rw [hfe] at l2
    refine ⟨B', _, e2, _, d, _, w6, l2, by rw [hio']; exact ex.1, fun σ4 Z4 e4 on _ w7 k4 => ?_⟩
    have hw4 : L2.wipe σ4 vs = L2.wipe σ vs := by
      rw [on.wipe ht]
      refine List.ext_getElem? fun j => ?_
      rw [wipe_get]
      by_cases hj : j ∈ vs
      · rw [if_pos hj, wipe_get, if_pos hj]
        cases σ[j]? <;> rfl
      · rw [if_neg hj]
    have len4 : σ4.length = e1.length := by rw [on.1, wipe_length, w1.len]
    refine ⟨hw4, B', Z4, e4, _, _, w7, k4, by rw [hio']; exact ex.1, fun Z5 H5 kk e5 w8 k5 => ?_⟩
    cases kk with
    | false =>
      rw [if_neg Bool.false_ne_true] at k5
      have w9 := (w8.wiped (vs := vs)).toWipe bare_wipe hio3
      rw [hw4] at w9
      exact ⟨Z5, _, acc, w9, bare_wipe, by rw [wipeE_len, w8.len, len4], k5⟩
    | true =>
      rw [if_pos rfl] at k5
      refine ⟨B', Z5, e5, _, _, _, w8, k5, fun v Z6 H6 o e6 w9 k6 => ?_, exTo0 (by rw [hio']; exact ex.1)⟩
      obtain ⟨hz, k6⟩ := k6
      obtain ⟨Z7, kp7, wa, ra⟩ := w9.frz
      have wb := (wa.wiped (vs := vs)).toWipe bare_wipe hio3
      rw [hw4] at wb
      obtain ⟨F, hF⟩ := wb.headO
      simp only [RO] at hF
      obtain ⟨aL, us, _, e1', hH, rd⟩ := hF
      cases e1'
      refine ⟨us, hH, by rw [rd.len]; exact hz, ?_⟩
      have wc := wb.write (u := .lst (us ++ [v])) (o' := .fl (acc ++ [o.fz])) (fun F hF => by simp only [RO] at hF; obtain ⟨_, _, e2', e1', _⟩ := hF; cases e1'; exact e2') (fun xs h => by cases h)
        fun kq => by
          simp only [RO]
          exact ⟨L, _, rfl, rfl, upd_same, (rd.keep kq).app (by simp only [RDs]; exact ⟨v, [], rfl, ra.keep kq, rfl⟩)⟩
      exact ⟨Z7, _, _, wc.2, bare_wipe, by rw [wipeE_len, wa.len, len4], k6⟩
  · left
    have hn : items.length ≤ i := Nat.le_of_not_lt hi
    rw [List.drop_eq_nil_of_le hn] at l2
    unfold compW at l2
    refine ⟨j2 hn, ?_⟩
    have w6 := w5b.ofWipe hb hio2
    have w7 := bk (T2 := (.fl acc, .ref L) :: T) hb hl (w6.perm List.perm_middle.symm)
    exact q _ _ _ _ _ w7 l2
end
end DS
/-! DS8i: comprehensions as values; statements. -/
namespace DS
open PySem PySem.Spec PyProof.Rows L2
section
variable {c : Cn} {lv : Nat} {sc : Scope} {fb : Str → Bool} {N : List Str} {X : Cx} {W : WX} {xa xb xc : Expr} {rest : List Expr} {p pos : Pos} {a b d : E}
def cellB (s : Scope) : Str → Bool := fun x => s.names.lookup x == some .cell
theorem Fit.blk (g : Fit c lv sc fb N X W) (s : Shared) (H : Hp) (scope : Scope) (C : Addr) (cl : List (Str × Addr)) (fp : List Addr) : Fit c lv (relS scope sc) (cellB scope) N (X.blk s H scope (compEnvC scope cl C X.env) fp) W0 where
  hK := g.hK
  hw := g.hw
  hN := g.hN
  hsc := by rw [← g.hsc]; rfl
  nd := g.nd
  calm := g.calm
  room := g.room
  fnc := rfl
  blt := g.blt
  cst := g.cst
  fn := fun i gi h => ⟨(g.fn i gi h).fn⟩
  tk := fun u s' h => by
    obtain ⟨_, _, _, _, _, _, _, _, _, _, _, _, _, _, _, _, h⟩ := h
    exact h
def noSetE : Expr → Bool
  | .Set _ _ _ => false
  | _ => true
theorem noSet_of {x : Expr} (h : noSetE x = true) (env : Env) : ∀ v, foldedSetIterable x env v = pure v := by
  intro v
  cases x <;> first | rfl | cases h
theorem e_comp {k : Src} {es : List E} {t : Tg} {cs : List E} {x : E} {elt tg it : Expr} {ifs : List Expr} {scope : Scope} {own : List (Str × Nat)} (g : Fit c lv sc fb N X W) (hb : blkC N sc scope own = true)
    (hv : (own.map (·.2)).Nodup) (hio : ∀ i ∈ own.map (·.2), i ∉ c.io) (ht : ∀ i ∈ t.ns, i ∈ own.map (·.2)) (hs : noSetE it = true) (hi : PI X tg it (tI c W k es))
    (h1 : ∀ {X' : Cx}, Fit c lv (relS scope sc) (cellB scope) N X' W0 → PG X' tg (tG c t)) (h2 : ∀ {X' : Cx}, Fit c lv (relS scope sc) (cellB scope) N X' W0 → PTs X' ifs (tCs c W0 cs)) (h3 : ∀ {X' : Cx}, Fit c lv (relS scope sc) (cellB scope) N X' W0 → PE X' elt (tE c W0 x)) :
    PE X (.ListComp elt [⟨tg, it, ifs, 0⟩] scope pos) (tE c W (.comp k es t cs x (own.map (·.2)))) :=
  PE.imp (pe_lc g.calm (by rw [g.hN]; exact g.nd) hi (by rw [g.hN, g.hsc]; exact blkOk_by hb) (fun s H C cl fp => h1 (g.blk s H scope C cl fp)) (fun s H C cl fp => h2 (g.blk s H scope C cl fp)) (fun s H C cl fp => h3 (g.blk s H scope C cl fp)) (noSet_of hs _))
    (comp_read hv hio ht)
/-! ### statements -/
def noCompE : Expr → Bool
  | .ListComp _ _ _ _ => false
  | .SetComp _ _ _ _ => false
  | .DictComp _ _ _ _ _ => false
  | _ => true
theorem noComp_of {x : Expr} (h : noCompE x = true) (t : Option Expr) (l : Nat) (env : Env) : swapsWith x t l env = pure false := by
  cases x <;> first | rfl | cases h
theorem s_exp (ha : PE X xa (tE c W a)) (hs : noCompE xa = true) : PS X (.Expr xa pos) (tS c W (.exp a)) := by
  refine PS.imp (ps_expr ha (noComp_of hs _ _ _)) ?_
  rintro D σ H ⟨B, Z, e, K, R, wd, we, d, ex⟩
  unfold wS at we
  exact ⟨B, Z, e, [], _, R, wd, we, fun v Z1 H1 o1 e1 w1 k1 => d.1 _ _ _ _ w1.drop k1, ex⟩
theorem s_doc {x : Str} {j : Nat} {pos' : Pos} : PS X (.Expr (.Constant (.str x) j pos) pos') (tS c W .pas) := by
  refine PS.imp ps_doc ?_
  rintro D σ H ⟨B, Z, e, K, R, wd, we, d, ex⟩
  unfold wS at we
  exact d.1 _ _ _ _ wd we
theorem s_pas : PS X (.Pass pos) (tS c W .pas) := by
  refine PS.imp ps_pass ?_
  rintro D σ H ⟨B, Z, e, K, R, wd, we, d, ex⟩
  unfold wS at we
  exact d.1 _ _ _ _ wd we
theorem s_brk : PS X (.Break pos) (tS c W .brk) := by
  refine PS.imp ps_break ?_
  rintro D σ H ⟨B, Z, e, K, R, wd, we, d, ex⟩
  unfold wS at we
  exact d.2.2.1 _ _ _ _ wd we
theorem s_cnt : PS X (.Continue pos) (tS c W .cnt) := by
  refine PS.imp ps_continue ?_
  rintro D σ H ⟨B, Z, e, K, R, wd, we, d, ex⟩
  unfold wS at we
  exact d.2.2.2 _ _ _ _ wd we
theorem s_retN : PS X (.Return none pos) (tS c W .retN) := by
  refine PS.imp ps_retN ?_
  rintro D σ H ⟨B, Z, e, K, R, wd, we, d, ex⟩
  unfold wS at we
  exact d.2.1 _ _ _ _ _ _ (wd.push (d := .non) (v := .non) (by simp only [RD])) we
theorem s_ret (ha : PE X xa (tE c W a)) : PS X (.Return (some xa) pos) (tS c W (.ret a)) := by
  refine PS.imp (ps_ret ha) ?_
  rintro D σ H ⟨B, Z, e, K, R, wd, we, d, ex⟩
  unfold wS at we
  exact ⟨B, Z, e, [], _, R, wd, we, fun v Z1 H1 o1 e1 w1 k1 => d.2.1 _ _ _ _ _ _ w1 k1, ex⟩
theorem ss_nil : PSs X [] (tSs c W []) := by
  refine PSs.imp pss_nil ?_
  rintro D σ H ⟨B, Z, e, K, R, wd, we, d, ex⟩
  unfold wSs at we
  exact d.1 _ _ _ _ wd we
theorem ss_cons {s : S} {ss : List S} {st : Stmt} {sts : List Stmt} (h1 : PS X st (tS c W s)) (h2 : PSs X sts (tSs c W ss)) : PSs X (st :: sts) (tSs c W (s :: ss)) := by
  refine PSs.imp (pss_cons h1 h2) ?_
  rintro D σ H ⟨B, Z, e, K, R, wd, we, d, ex⟩
  unfold wSs at we
  exact ⟨B, Z, e, _, R, wd, we, ⟨fun σ1 Z1 H1 e1 w1 k1 => ⟨B, Z1, e1, K, R, w1, k1, d, ex⟩, d.2⟩, ex⟩
theorem s_ifs {s1 s2 : List S} {b1 b2 : List Stmt} (hc : PT X xa (tT c W a)) (h1 : PSs X b1 (tSs c W s1)) (h2 : PSs X b2 (tSs c W s2)) : PS X (.If xa b1 b2 pos) (tS c W (.ifs a s1 s2)) := by
  refine PS.imp (ps_if hc h1 h2) ?_
  rintro D σ H ⟨B, Z, e, K, R, wd, we, d, ex⟩
  unfold wS at we
  refine ⟨B, Z, e, [], fun k e1 => if k = true then wSs c.Γ s1 e1 K R else wSs c.Γ s2 e1 K R, R, wd, we, fun Z1 H1 k e1 w1 k1 => ?_, ex⟩
  cases k with
  | true => exact ⟨B, Z1, e1, K, R, w1, k1, d, ex⟩
  | false => exact ⟨B, Z1, e1, K, R, w1, k1, d, ex⟩
theorem setRead {i : Nat} {a : E} {D : Ends} {σ : Sl} {H : Hp} (hi : i < σ.length) (hio : i ∉ c.io) (h : tS c W (.set i a) D σ H) : tAsg (tE c W a) (gName i) D σ H := by
  obtain ⟨B, Z, e, K, R, wd, we, d, ex⟩ := h
  unfold wS at we
  exact ⟨B, Z, e, [], _, R, wd, we, fun v Z1 H1 o1 e1 w1 k1 => d.1 _ _ _ _ (w1.setAt hi (by rw [ex.1]; exact hio)) k1, ex⟩
theorem s_set0 {i : Nat} {st : Stmt} (g : Fit c lv sc fb N X W) (hi : i < N.length) (hio : i ∉ c.io) (h : PS X st (tAsg (tE c W a) (gName i))) : PS X st (tS c W (.set i a)) := by
  constructor
  intro pins s σ H D I hh
  exact h.run pins s σ H D I (setRead (by rw [I.len, g.hN]; exact hi) hio hh)
theorem s_set {i : Nat} {y : Str} {pos' : Pos} (g : Fit c lv sc fb N X W) (hN : N[i]? = some y) (hs : stoB sc fb y = true) (hio : i ∉ c.io) (ha : PE X xa (tE c W a)) (hsw : swapsWith xa (some (.Name y pos')) pos.line X.env = pure false) :
    PS X (.Assign [.Name y pos'] xa pos) (tS c W (.set i a)) := by
  obtain ⟨h1, h2⟩ := sto_of g hs
  exact s_set0 g (List.getElem?_eq_some_iff.mp hN).1 hio (ps_set (by rw [g.hN]; exact g.nd) (by rw [g.hN]; exact hN) h1 ha hsw h2)
theorem s_setc {i : Nat} {y : Str} {pos' : Pos} {k : Src} {es : List E} {t : Tg} {cs : List E} {x : E} {elt tg it : Expr} {ifs : List Expr} {scope : Scope} {own : List (Str × Nat)} {spos : Pos} (g : Fit c lv sc fb N X W) (hN : N[i]? = some y) (hy : sc.names.lookup y = some .local) (hsw : swapsWith (.ListComp elt [⟨tg, it, ifs, 0⟩] scope pos) (some (.Name y pos')) spos.line X.env = pure true)
    (hi0 : i ∉ c.io) (hb : blkC N sc scope own = true)
    (hv : (own.map (·.2)).Nodup) (hio : ∀ i ∈ own.map (·.2), i ∉ c.io) (ht : ∀ i ∈ t.ns, i ∈ own.map (·.2)) (hs : noSetE it = true) (hi : PI X tg it (tI c W k es))
    (h1 : ∀ {X' : Cx}, Fit c lv (relS scope sc) (cellB scope) N X' W0 → PG X' tg (tG c t)) (h2 : ∀ {X' : Cx}, Fit c lv (relS scope sc) (cellB scope) N X' W0 → PTs X' ifs (tCs c W0 cs)) (h3 : ∀ {X' : Cx}, Fit c lv (relS scope sc) (cellB scope) N X' W0 → PE X' elt (tE c W0 x)) :
    PS X (.Assign [.Name y pos'] (.ListComp elt [⟨tg, it, ifs, 0⟩] scope pos) spos) (tS c W (.set i (.comp k es t cs x (own.map (·.2))))) := by
  refine s_set0 g (List.getElem?_eq_some_iff.mp hN).1 hi0 ?_
  refine PS.imp (ps_setLc g.calm (by rw [g.hN]; exact g.nd) (by rw [g.hN]; exact hN) (by rw [g.hsc]; exact hy) hsw hi (by rw [g.hN, g.hsc]; exact blkOk_by hb) (fun s H C cl fp => h1 (g.blk s H scope C cl fp)) (fun s H C cl fp => h2 (g.blk s H scope C cl fp)) (fun s H C cl fp => h3 (g.blk s H scope C cl fp)) (noSet_of hs _)) ?_
  intro D σ H h
  exact comp_read hv hio ht σ H _ h
end
end DS
/-! DS8j: more statements. -/
namespace DS
open PySem PySem.Spec PyProof.Rows L2
section
variable {c : Cn} {lv : Nat} {sc : Scope} {fb : Str → Bool} {N : List Str} {X : Cx} {W : WX} {xa xb xc : Expr} {rest : List Expr} {p pos apos cpos : Pos} {a b d : E}
def noTupE : Expr → Bool
  | .Tuple _ _ _ => false
  | _ => true
theorem noSwap_of {t x : Expr} (h : noTupE x = true) (env : Env) : swappedStores [t] x env = pure none := by
  unfold swappedStores
  cases x <;> first | (cases h; done) | (cases t <;> rfl)
theorem s_tgt {t : Tg} {tg : Expr} (g : Fit c lv sc fb N X W) (ha : PE X xa (tE c W a)) (hg : PG X tg (tG c t)) (hx : tgB tg = true) (h1 : noCompE xa = true) (h2 : noTupE xa = true) : PS X (.Assign [tg] xa pos) (tS c W (.tgt t a)) := by
  refine PS.imp (ps_asg ha hg (noComp_of h1 _ _ _) (noSwap_of h2 _) (by rw [assignEach_of hx]; rfl)) ?_
  rintro D σ H ⟨B, Z, e, K, R, wd, we, d, ex⟩
  unfold wS at we
  refine ⟨B, Z, e, [], _, R, wd, we, fun v Z1 H1 o1 e1 w1 k1 => ?_, ex⟩
  obtain ⟨Z2, kp, w2, r⟩ := w1.frz
  exact ⟨B, Z2, e1, [], o1.fz, _, w2.push r, k1, ex.1, fun σ' Z' e' _ _ w' k' => d.1 _ _ _ _ w' k'⟩
theorem s_app {i : Nat} {y : Str} (g : Fit c lv sc fb N X W) (hN : N[i]? = some y) (hv : visB sc y = true) (hd : (y == ("__debug__" : Str)) = false) (hcd : (y == ("__classdict__" : Str)) = false) (ha : PE X xa (tE c W a)) (hs : noStar xa = true) (hline : (apos.endLine == cpos.line) = true) :
    PS X (.Expr (.Call (.Attribute (.Name y p) "append" apos) [xa] [] cpos) pos) (tS c W (.app i a)) := by
  have hp := pe_bm (X := X) (apos := apos) (cpos := cpos) (T := "list") (id := "list.append") (name := "append") F.plainAttrs_list F.slot_list_append F.type_list_append (mt_append (X := X)) (pe_var (X := X) (pos := p) (i := i) (by rw [g.hN]; exact hN) (by rw [g.hsc]; exact vis_of hv) hd hcd)
    (pa_cons ha pa_nil (star_of hs _)) rfl (by simp [star_of hs, starEach, backTo, backToKw, keywordEach]) hline (star_of hs _) rfl
  refine PS.imp (ps_expr hp (noComp_of rfl _ _ _)) ?_
  rintro D σ H ⟨B, Z, e, K, R, wd, we, d, ex⟩
  unfold wS at we
  obtain ⟨⟨xs0, h0⟩, we⟩ := we
  obtain ⟨v, hsl, w0⟩ := wd.take h0
  obtain ⟨F0, hF⟩ := w0.headO
  simp only [RO] at hF
  obtain ⟨l, us0, _, rfl, hH0, _⟩ := hF
  refine ⟨.ref l, hsl, .inl ⟨rfl, us0, .of hH0⟩, B, Z, e, [], _, R, wd, we, fun v1 Z1 H1 o1 e1 w1 k1 => ?_, ex⟩
  obtain ⟨xs, h1, hz, k1⟩ := k1
  obtain ⟨Z2, kp, w2, r⟩ := w1.frz
  obtain ⟨v', hs', w3⟩ := w2.take h1
  rw [hsl] at hs'
  cases hs'
  obtain ⟨F1, hF⟩ := w3.headO
  simp only [RO] at hF
  obtain ⟨l', us, _, e', hH, rd⟩ := hF
  cases e'
  refine ⟨l, us, v1, rfl, rfl, hH, by rw [rd.len]; exact hz, ?_⟩
  have wc := w3.write (u := .lst (us ++ [v1])) (o' := .fl (xs ++ [o1.fz])) (fun F hF => by simp only [RO] at hF; obtain ⟨_, _, e2', e1', _⟩ := hF; cases e1'; exact e2') (fun xs h => by cases h)
    fun kq => by
      simp only [RO]
      exact ⟨l, _, rfl, rfl, upd_same, (rd.keep kq).app (by simp only [RDs]; exact ⟨v1, [], rfl, r.keep kq, rfl⟩)⟩
  have wf := Wd.back wc.2 (List.getElem?_set_self (List.getElem?_eq_some_iff.mp h1).1) hsl
  rw [List.set_set] at wf
  exact d.1 _ _ _ _ wf k1
theorem Fit.units (g : Fit c lv sc fb N X W) : X.A.in1.units + 8 < cLine := by
  have h := g.room.un
  have h2 : X.A.in1.units ≤ X.A.units + 1 := by unfold Around.in1; simp
  omega
/-- o[i] = v, by values: a list; a dict -/
def rSetX (c : Cn) : V → V → V → Hp → (Hp → Prop) → Prop := fun o i v H Q => rSetL o i v H Q ∨ ∃ a kvs Z kd k d, o = .ref a ∧ DicAt c.k Z H a kvs ∧ RD c.k Z H kd i ∧ D.key kd = some k ∧ k.depth ≤ 8 ∧ kvs.length < sizeLine ∧ RD c.k Z H d v ∧
  ∀ o', (Kp Z Z H (upd H a (pin a o')) → DicAt c.k Z (upd H a (pin a o')) a (dput kvs kd k d)) → Q (upd H a (pin a o'))
theorem Inv.pinned' {pins : List (Addr × Obj)} {σ : Sl} {H : Hp} {s : Shared} {a : Addr} {o o' : Obj} {h' : Heap} {t : Nat} (I : Inv X pins σ H s) (ha : H a = some (pin a o)) (sb : Heap.SameBut a s.heap h') (ho : h'.get? a = some o') : Inv X pins σ (upd H a (pin a o')) { s with heap := h', toks := t } :=
  I.write (by rw [ha]; trivial) (.inl rfl) (fun b u hb e => (sb.2 b hb).trans e) ⟨o', ho⟩ ⟨ho, ⟨o', ho⟩, fun h1 h2 e k => k o' e⟩
theorem set_x (g : Fit c lv sc fb N X W) : PSet X (rSetX c) := by
  intro pins s σ H o i v ov iv u Q I ro ri rv h
  rcases h with h | ⟨a, kvs, Z, kd, k, d, rfl, da, rk, ek, h8, hz, rd, q⟩
  · exact set_list pins s σ H o i v ov iv u Q I ro ri rv h
  · cases ro
    have hok := I.hok
    rw [g.hw] at hok
    obtain ⟨ob, xs, ha, gd, al, hs, hl, nd⟩ := da.gd hok
    have hn := RD.nested hok rk ek ri
    rw [g.hw]
    refine g_setItem g.units hn h8 gd (by rw [al.len]; exact hl) fun h' o' t gd' sb => ?_
    refine ⟨_, Inv.pinned' I ha sb gd'.get, q o' fun kp => ?_⟩
    rw [gput_eq (al.nd nd)] at gd'
    exact DicAt.mk rfl upd_same hs gd' (al.put ek h8 ri rk rv rd |>.keep kp) (Nat.le_trans dput_len hz) (dput_nd ek nd)
theorem RDs.set {C : Kx} {Z : Addr → Prop} {H : Hp} {d : D} {v : V} (r : RD C Z H d v) : ∀ {ds : List D} {vs : List V} {j : Nat}, RDs C Z H ds vs → RDs C Z H (ds.set j d) (vs.set j v)
  | [], vs, j, h => by simp only [RDs] at h; subst h; simp [RDs]
  | x :: xs, vs, j, h => by
    simp only [RDs] at h
    obtain ⟨u, q, rfl, h1, h2⟩ := h
    cases j with
    | zero => simp only [List.set_cons_zero, RDs]; exact ⟨v, q, rfl, r, h2⟩
    | succ j => simp only [List.set_cons_succ, RDs]; exact ⟨u, _, rfl, h1, RDs.set r h2⟩
theorem noSole_of {x : Expr} (h : noCompE x = true) (t : Expr) (l : Nat) (env : Env) : swapsWithSole [t] x l env = pure false := by
  have e : swapsWithSole [t] x l env = swapsWith x (some t) l env := by unfold swapsWithSole; rfl
  rw [e]
  exact noComp_of h _ _ _
theorem asgSub {o i : Expr} {ps : Pos} (h : noSlice i = true) (env : Env) : ∀ v, assign (.Subscript o i ps) env v = (do
    let ov ← holding [v] (eval o env)
    let iv ← holding [v, ov] (eval i env)
    standAt ps
    holding [v, ov, iv] (setItem ov iv v)
    release [v, ov, iv] []) := by
  intro v
  cases i <;> first | rfl | cases h
theorem s_sti {i : Nat} {y : Str} {xk : Expr} {k : E} {pn ps : Pos} (g : Fit c lv sc fb N X W) (hN : N[i]? = some y) (hv : visB sc y = true) (hd : (y == ("__debug__" : Str)) = false) (hcd : (y == ("__classdict__" : Str)) = false) (ha : PE X xa (tE c W a)) (hk : PE X xk (tE c W k)) (h1 : noCompE xa = true) (h2 : noTupE xa = true)
    (hns : noSlice xk = true) :
    PS X (.Assign [.Subscript (.Name y pn) xk ps] xa pos) (tS c W (.sti i k a)) := by
  refine PS.imp (ps_asg ha (pg_sub (pe_var (i := i) (by rw [g.hN]; exact hN) (by rw [g.hsc]; exact vis_of hv) hd hcd) hk (set_x g) (asgSub hns _)) (noSole_of h1 _ _ _) (noSwap_of h2 _)) ?_
  rintro D σ H ⟨B, Z, e, K, R, wd, we, d, ex⟩
  unfold wS at we
  refine ⟨B, Z, e, [], _, R, wd, we, fun v1 Z1 H1 o1 e1 w1 k1 => ?_, ex⟩
  obtain ⟨⟨o2, h2⟩, k1⟩ := k1
  obtain ⟨vo, hso, _⟩ := w1.drop.take h2
  refine ⟨vo, hso, B, Z1, e1, [(o1, v1)], _, R, w1, k1, fun vk Z2 H2 ko e2 w2 k2 => ?_, ex⟩
  obtain ⟨Z3, kp3, w3, rk⟩ := w2.frz
  obtain ⟨Z4, kp4, w4, rv⟩ := w3.frz
  have rk := rk.keep kp4
  dsimp only at k2
  split at k2
  · rename_i xs he
    obtain ⟨n, j, ek, ej, k2⟩ := k2
    obtain ⟨v', hs', w5⟩ := w4.take he
    rw [hso] at hs'
    cases hs'
    obtain ⟨F1, hF⟩ := w5.headO
    simp only [RO] at hF
    obtain ⟨l, us, _, rfl, hH, rd⟩ := hF
    rw [ek] at rk
    refine .inl ⟨l, us, n, j, rfl, rk.int', hH, by rw [rd.len]; exact ej, ?_⟩
    have wc := w5.write (u := .lst (us.set j v1)) (o' := .fl (xs.set j o1.fz)) (fun F hF => by simp only [RO] at hF; obtain ⟨_, _, e2', e1', _⟩ := hF; cases e1'; exact e2') (fun xs h => by cases h)
      fun kq => by
        simp only [RO]
        exact ⟨l, _, rfl, rfl, upd_same, RDs.set (rv.keep kq) (rd.keep kq)⟩
    have wf := Wd.back wc.2 (List.getElem?_set_self (List.getElem?_eq_some_iff.mp he).1) hso
    rw [List.set_set] at wf
    exact d.1 _ _ _ _ wf k2
  · rename_i kvs he
    obtain ⟨kk, ek, h8, hz, k2⟩ := k2
    obtain ⟨v', hs', w5⟩ := w4.take he
    rw [hso] at hs'
    cases hs'
    obtain ⟨F1, hF⟩ := w5.headO
    obtain ⟨l, _, rfl, da⟩ := hF.dic
    refine .inr ⟨l, kvs, Z4, _, kk, _, rfl, da, rk, ek, h8, hz, rv, fun o' hd => ?_⟩
    have wc := w5.write (u := pin l o') (o' := .fd (dput kvs ko.fz kk o1.fz)) (fun F hF => by obtain ⟨a', e2', e1', _⟩ := hF.dic; cases e1'; exact e2') (fun xs h => by cases h)
      fun kq => (hd kq).ro
    have wf := Wd.back wc.2 (List.getElem?_set_self (List.getElem?_eq_some_iff.mp he).1) hso
    rw [List.set_set] at wf
    exact d.1 _ _ _ _ wf k2
  · exact k2.elim
end
end DS
/-! DS8k: a, b = x, y; augmented stores; while. -/
namespace DS
open PySem PySem.Spec PyProof.Rows L2
section
variable {c : Cn} {lv : Nat} {sc : Scope} {fb : Str → Bool} {N : List Str} {X : Cx} {W : WX} {xa xb xc : Expr} {rest : List Expr} {p pos px py pt pt2 : Pos} {a b d : E} {kt k2 : Nat} {x y : Str}
/-- stored from the right: both names local, the values not all constants -/
def sw2 (sc : Scope) (x y : Str) (px py : Pos) (xa xb : Expr) : Bool :=
  (match sc.kind with | .function => true | _ => false) && noStar xa && noStar xb && (match sc.names.lookup x with | some .local => true | _ => false) && (match sc.names.lookup y with | some .local => true | _ => false) && (py.line == px.line) && (!(x == y)) &&
    !(foldedForSure 8 xa && foldedForSure 8 xb) && !(constantsAlone 8 xa && constantsAlone 8 xb)
theorem loc_is {x : Str} (h : (match sc.names.lookup x with | some .local => true | _ => false) = true) : sc.names.lookup x = some .local := by
  split at h
  · assumption
  · cases h
theorem star_any {x : Expr} (h : noStar x = true) : (match x with | .Starred .. => true | _ => false) = false := by
  cases x <;> first | rfl | cases h
theorem sw2_some (g : Fit c lv sc fb N X W) (h : sw2 sc x y px py xa xb = true) : swappedStores [.Tuple [.Name x px, .Name y py] kt pt] (.Tuple [xa, xb] k2 pt2) X.env = pure (some [x, y]) := by
  unfold sw2 at h
  simp only [Bool.and_eq_true, Bool.not_eq_true'] at h
  obtain ⟨⟨⟨⟨⟨⟨⟨⟨h1, h2⟩, h3⟩, h4⟩, h5⟩, h6⟩, h7⟩, h8⟩, h9⟩ := h
  have k1 : X.env.kindOf x = some .local := by show X.env.scope.names.lookup x = _; rw [g.hsc]; exact loc_is h4
  have k2 : X.env.kindOf y = some .local := by show X.env.scope.names.lookup y = _; rw [g.hsc]; exact loc_is h5
  have k3 : X.env.blockKind = .function := by
    unfold Env.blockKind
    rw [g.hsc]
    split at h1
    · rename_i e; rw [e]; rfl
    · cases h1
  have k4 : ([x, y].eraseDups.length != [x, y].length) = false := by
    have h10 : (y == x) = false := by
      rw [beq_eq_false_iff_ne] at h7 ⊢
      exact fun e => h7 e.symm
    simp [List.eraseDups, List.eraseDupsBy, List.eraseDupsBy.loop, h10]
  have h6 : py.line = px.line := by simpa using h6
  unfold swappedStores
  simp [k1, k2, k3, h6, h8, h9, Expr.pos]
  rw [if_neg]
  · rw [if_pos (by simpa using k4)]
  · rintro (e | e)
    · cases xa <;> simp_all [noStar]
    · cases xb <;> simp_all [noStar]
def swQ (bk : ScopeKind) (sc : Scope) (ts vs : List Expr) : Bool :=
  if !(ts.length == 2 || ts.length == 3) || vs.length != ts.length || bk != .function then true else
  if vs.any fun | .Starred .. => true | _ => false then true else
  let names := ts.filterMap fun
    | .Name id pos => if sc.names.lookup id == some .local && pos.line == (ts.head?.map (·.pos.line)).getD 0 then some id else none
    | _ => none
  if names.length != ts.length || names.eraseDups.length != names.length then true else
  vs.all (foldedForSure 8)
theorem swQ_none {ts vs : List Expr} {env : Env} (e : env.scope = sc) (h : swQ env.blockKind sc ts vs = true) : swappedStores [.Tuple ts kt pt] (.Tuple vs k2 pt2) env = pure none := by
  subst e
  unfold swappedStores
  unfold swQ at h
  dsimp only [Env.kindOf] at h ⊢
  split at h
  · rename_i h1
    exact if_pos h1
  · rename_i h1
    refine (if_neg h1).trans ?_
    split at h
    · rename_i h2
      exact if_pos h2
    · rename_i h2
      refine (if_neg h2).trans ?_
      split at h
      · rename_i h3
        exact if_pos h3
      · rename_i h3
        exact (if_neg h3).trans (if_pos h)
theorem s_par2 {i j : Nat} (g : Fit c lv sc fb N X W) (hi : N[i]? = some x) (hj : N[j]? = some y) (hij : i ≠ j) (h1 : i ∉ c.io) (h2 : j ∉ c.io) (hsw : sw2 sc x y px py xa xb = true) (ha : PA X [xa, xb] (tEs c W [a, b])) :
    PS X (.Assign [.Tuple [.Name x px, .Name y py] kt pt] (.Tuple [xa, xb] k2 pt2) pos) (tS c W (.par [i, j] [a, b])) := by
  have h := hsw
  unfold sw2 at h
  simp only [Bool.and_eq_true] at h
  have lx : X.env.scope.names.lookup x = some .local := by rw [g.hsc]; exact loc_is h.1.1.1.1.1.2
  have ly : X.env.scope.names.lookup y = some .local := by rw [g.hsc]; exact loc_is h.1.1.1.1.2
  have hN : X.N.Nodup := by rw [g.hN]; exact g.nd
  have hp := ps_par (pos := pos) g.calm hN (by rw [g.hN]; exact hi) (by rw [g.hN]; exact hj) hij lx ly ha (sw2_some (kt := kt) (pt := pt) (k2 := k2) (pt2 := pt2) g hsw) (noSole_of rfl _ _ _)
  constructor
  intro pins s σ H D I hh
  refine hp.run pins s σ H D I ?_
  obtain ⟨B, Z, e, K, R, wd, we, d, ex⟩ := hh
  unfold wS at we
  refine ⟨B, Z, e, [], _, R, wd, we, fun os vs Z1 H1 e1 hl hla w1 k1 => ?_, ex⟩
  obtain ⟨hl2, k1⟩ := k1
  obtain ⟨o1, o2, rfl⟩ : ∃ o1 o2, os = [o1, o2] := by
    rcases os with _ | ⟨o1, _ | ⟨o2, _ | ⟨o3, os⟩⟩⟩ <;> simp at hl2 ⊢
  obtain ⟨v1, v2, rfl⟩ : ∃ v1 v2, vs = [v1, v2] := by
    rcases vs with _ | ⟨o1, _ | ⟨o2, _ | ⟨o3, os⟩⟩⟩ <;> simp at hl ⊢
  have li : i < σ.length := by rw [I.len, g.hN]; exact (List.getElem?_eq_some_iff.mp hi).1
  have lj : j < σ.length := by rw [I.len, g.hN]; exact (List.getElem?_eq_some_iff.mp hj).1
  have w2 : Wd c.k B Z1 H1 σ e1 ((o2, v2) :: (o1, v1) :: []) := by simpa [zipT] using w1
  have w3 := w2.swap.setAt li (by rw [ex.1]; exact h1)
  have w4 := w3.setAt (i := j) (by rw [List.length_set]; exact lj) (by rw [ex.1]; exact h2)
  exact ⟨v1, v2, rfl, d.1 _ _ _ _ w4 k1⟩
/-- names stored from the left -/
def tGp (c : Cn) (is : List Nat) : TGs := fun vs σ H Q => ∃ B Z e T os, Wd c.k B Z H σ e (zipT os vs ++ T) ∧ os.length = vs.length ∧ os.length = is.length ∧ B.io.map (·.1) = c.io ∧ ∀ σ', Wd c.k B Z H σ' (setAll is os e) T → Q σ' H
theorem gp_nil : PGs X [] (tGp c []) := by
  constructor
  intro pins s σ H vs us Q I r ⟨B, Z, e, T, os, wd, l1, l2, he, hq⟩
  refine pgs_nil.run pins s σ H vs us Q I r ?_
  cases os with
  | nil =>
    cases vs with
    | nil => exact ⟨rfl, hq σ wd⟩
    | cons => simp at l1
  | cons => simp at l2
theorem gp_cons {i : Nat} {is : List Nat} {xs : List Expr} (g : Fit c lv sc fb N X W) (hi : N[i]? = some x) (hs : stoB sc fb x = true) (hio : i ∉ c.io) (hr : PGs X xs (tGp c is)) : PGs X (.Name x px :: xs) (tGp c (i :: is)) := by
  obtain ⟨q1, q2⟩ := sto_of g hs
  constructor
  intro pins s σ H vs us Q I r ⟨B, Z, e, T, os, wd, l1, l2, he, hq⟩
  refine (pgs_cons (pg_name (pos := px) (by rw [g.hN]; exact g.nd) (by rw [g.hN]; exact hi) q1 q2) hr rfl).run pins s σ H vs us Q I r ?_
  cases os with
  | nil => simp at l2
  | cons o os =>
    cases vs with
    | nil => simp at l1
    | cons v vs =>
      have li : i < σ.length := by rw [I.len, g.hN]; exact (List.getElem?_eq_some_iff.mp hi).1
      refine ⟨v, vs, rfl, B, Z, _, T, os, wd.setAt li (by rw [he]; exact hio), by simpa using l1, by simpa using l2, he, fun σ' w' => hq σ' w'⟩
theorem s_parT {is : List Nat} {es : List E} {ts vs : List Expr} (g : Fit c lv sc fb N X W) (ha : PA X vs (tEs c W es)) (hg : PGs X ts (tGp c is)) (hts : ts.all tgB = true) (hl : ts.length = is.length) (hz : is.length ≤ 1000) (hsw : swQ X.env.blockKind sc ts vs = true) :
    PS X (.Assign [.Tuple ts kt pt] (.Tuple vs k2 pt2) pos) (tS c W (.par is es)) := by
  obtain ⟨l1, l2⟩ := each_len hts X.env
  refine PS.imp (ps_asg (pe_tup ha) (pg_tup g.calm hg l1 l2) (noSole_of rfl _ _ _) (swQ_none g.hsc hsw)) ?_
  rintro D σ H ⟨B, Z, e, K, R, wd, we, d, ex⟩
  unfold wS at we
  refine ⟨B, Z, e, [], _, R, wd, we, fun os vs Z1 H1 e1 hl3 hla w1 k1 => ?_, ex⟩
  obtain ⟨hl2, k1⟩ := k1
  have hs := sizeLine_eq
  refine ⟨by omega, fun q hq => ?_⟩
  have w2 := (w1.new hq (.tup vs)).2
  refine ⟨q, vs, rfl, .of upd_same, by omega, B, Z1, e1, [], os, w2.perm ((List.reverse_perm _).append_right _), hl3, hl2, ex.1, fun σ' w' => d.1 _ _ _ _ w' k1⟩
theorem s_whl {bd : List S} {body : List Stmt} (hp : PassesOwn (model X.prog X.w) X.A X.env X.xe) (hc : PT X xa (tT c W a)) (hb : PSs X body (tSs c W bd)) : PS X (.While xa body [] pos) (tS c W (.wh a bd)) := by
  refine PS.imp (ps_while hp hc hb) ?_
  rintro D σ H ⟨B, Z, e, K, R, wd, we, d, ex⟩
  unfold wS at we
  obtain ⟨V, ⟨m0, h0⟩, step⟩ := we
  refine ⟨fun m σ H => ∃ Z e, Wd c.k B Z H σ e [] ∧ V m e, ⟨m0, Z, e, wd, h0⟩, ?_⟩
  rintro m σ2 H2 ⟨Z2, e2, w2, hv⟩
  refine ⟨B, Z2, e2, [], fun k e1 => if k = true then _ else K.nx e1, R, w2, step m e2 hv, fun Z3 H3 k e3 w3 k3 => ?_, ex⟩
  cases k with
  | true =>
    rw [if_pos rfl]
    refine ⟨fun σ H => ∃ Z e, Wd c.k B Z H σ e [] ∧ ∃ m', m' < m ∧ V m' e, fun σ H ⟨Z, e, w, m', h1, h2⟩ => ⟨m', h1, Z, e, w, h2⟩, B, Z3, e3, _, R, w3, k3, ⟨fun σ Z H e w q => ⟨Z, e, w, q⟩, d.2.1, d.1, fun σ Z H e w q => ⟨Z, e, w, q⟩⟩, ex⟩
  | false => exact d.1 _ _ _ _ w3 k3
end
end DS
/-! DS10: operations over data: == != in, subscripts, len. -/
namespace DS
open PySem PySem.Spec PyProof.Rows L2 PySem.SeqAt
section
variable {c : Cn} {lv : Nat} {sc : Scope} {fb : Str → Bool} {N : List Str} {X : Cx} {W : WX} {xa xb xc : Expr} {rest : List Expr} {p pos apos cpos : Pos} {a b d : E}
theorem Fit.units2 (g : Fit c lv sc fb N X W) : X.A.units + 40 < cLine := by have h := g.room.un; omega
theorem epB {pins : List (Addr × Obj)} {σ : Sl} {H : Hp} {s : Shared} {Q : VK} {k : Bool} (I : Inv X pins σ H s) (q : Q (.bl k) H) : EP X pins σ Q (.bool k) s := ⟨.bl k, H, I, rfl, q⟩
def rrEq (c : Cn) (b : Bool) : R2 := fun x y H Q => ∃ d1 d2 Z, RD c.k Z H d1 x ∧ RD c.k Z H d2 y ∧ cmpOk d1 d2 ∧ Q (.bl (deq d1 d2 == b)) H
theorem op_rrEq (g : Fit c lv sc fb N X W) : OpR X (compareOp .Eq) (rrEq c true) := by
  rintro pins s σ H x y v u Q I rx ry ⟨d1, d2, Z, r1, r2, hc, q⟩
  have hok := I.hok
  have h := g.units2
  refine rcD (C := c.k) g.hw.symm hok 8 X.A d1 d2 x y v u hc.2 hc.1 r1 r2 rx ry (by omega) _ _ (epB I ?_)
  have e : deq d1 d2 = (deq d1 d2 == true) := by cases deq d1 d2 <;> rfl
  rw [e]; exact q
theorem op_rrNe (g : Fit c lv sc fb N X W) : OpR X (compareOp .NotEq) (rrEq c false) := by
  rintro pins s σ H x y v u Q I rx ry ⟨d1, d2, Z, r1, r2, hc, q⟩
  have hok := I.hok
  have h := g.units2
  refine rnD (C := c.k) g.hw.symm hok 8 X.A d1 d2 x y v u hc.2 hc.1 r1 r2 rx ry (by omega) _ _ (epB I ?_)
  have e : (!deq d1 d2) = (deq d1 d2 == false) := by cases deq d1 d2 <;> rfl
  rw [e]; exact q
theorem RV.up {C : Kx} {Z : Addr → Prop} {H : Hp} {d : D} {v : V} (r : RV C Z H d v) : ∃ Z', Kp Z Z' H H ∧ RD C Z' H d v := by
  cases d with
  | lst xs =>
    obtain ⟨a, vs, e, h, q⟩ := r.lst'
    have k : Kp Z (Zor Z [a]) H H := .more fun _ h => .inl h
    refine ⟨_, k, ?_⟩
    simp only [RD]
    exact ⟨a, vs, e, .inr (List.mem_singleton_self a), h, q.keep k⟩
  | dct kvs =>
    obtain ⟨a, e, o, es, ep, h1, h2, h3, h4, h5, h6, h7⟩ := r.dic
    have k : Kp Z (Zor Z [a]) H H := .more fun _ h => .inl h
    refine ⟨_, k, ?_⟩
    simp only [RD]
    exact ⟨a, o, es, ep, e, .inr (List.mem_singleton_self a), h1, h2, h3, h4, h5, h6, h7.keep k⟩
  | _ => exact ⟨Z, .refl, r.r⟩
theorem RV.up2 {C : Kx} {Z : Addr → Prop} {H : Hp} {d1 d2 : D} {v1 v2 : V} (r1 : RV C Z H d1 v1) (r2 : RV C Z H d2 v2) : ∃ Z', Kp Z Z' H H ∧ RD C Z' H d1 v1 ∧ RD C Z' H d2 v2 := by
  obtain ⟨Z1, k1, q1⟩ := r1.up
  obtain ⟨Z2, k2, q2⟩ := (r2.keepZ k1).up
  exact ⟨Z2, k1.trans k2, q1.keep k2, q2⟩
theorem w_eqB {o : Op} {b : Bool} (ho : ∀ ds K, opW o ds K = eqW b ds K) : OpW2 c o (rrEq c b) := by
  intro B Z H σ e T x y d1 d2 K Q w r1 r2 k q
  rw [ho] at k
  obtain ⟨Z2, _, r1, r2⟩ := r1.up2 r2
  exact ⟨d1, d2, Z2, r1, r2, k.1, q _ _ _ _ (w.pBl _) k.2⟩
/-! in -/
def rrIn (c : Cn) (b : Bool) : R2 := fun x y H Q => (∃ d ys Z, RD c.k Z H d x ∧ (RD c.k Z H (.lst ys) y ∨ RD c.k Z H (.tup ys) y) ∧ (∀ z ∈ ys, cmpOk z d) ∧ Q (.bl (ys.any (fun z => deq z d) == b)) H) ∨
  (∃ d kvs Z k, RD c.k Z H d x ∧ RD c.k Z H (.dct kvs) y ∧ D.key d = some k ∧ k.depth ≤ 8 ∧ Q (.bl ((dget kvs k).isSome == b)) H) ∨
  (∃ z1 z2, x = .str z1 ∧ y = .str z2 ∧ Q (.bl ((!(Builtin.Str.occurrences z2 z1 0 z2.length 1).isEmpty) == b)) H)
def dAt (ys : List D) (d : D) (j : Nat) : Bool := match ys[j]? with
  | some y => deq y d
  | none => true
theorem any_dAt (d : D) : ∀ (ys : List D), anyF (dAt ys d) ys.length 0 = ys.any fun z => deq z d
  | [] => rfl
  | y :: ys => by
    rw [List.length_cons, anyF_step (by omega), List.any_cons, ← any_dAt d ys]
    have e : dAt (y :: ys) d 0 = deq y d := rfl
    rw [e]
    congr 1
    unfold anyF
    rw [List.range_succ_eq_map]
    simp only [Nat.zero_add, List.drop_succ_cons, List.drop_zero, List.any_map]
    rfl
theorem op_inX (g : Fit c lv sc fb N X W) {op : CmpOp} {b : Bool} (hcmp : ∀ (v u : Value) (s : Shared) (Q : Value → Shared → Prop), wpAny (model X.prog X.w) X.A (contains u v) (fun k s' => Q (.bool (k == b)) s') X.xe s → wpAny (model X.prog X.w) X.A (compareOp op v u) Q X.xe s)
    (hstr : OpR X (compareOp op) (fun x y H Q => ∃ i j, x = .str i ∧ y = .str j ∧ Q (.bl ((!(Builtin.Str.occurrences j i 0 j.length 1).isEmpty) == b)) H)) : OpR X (compareOp op) (rrIn c b) := by
  intro pins s σ H x y v u Q I rx ry h
  have hok := I.hok
  have hu := g.units2
  have hh := in1_units (A := X.A)
  rcases h with ⟨d, ys, Z, rd, ry', hc, q⟩ | ⟨d, kvs, Z, k, rd, rk, ek, h8, q⟩ | h
  · have items : ∀ {us : List V} {its : List Value}, RDs c.k Z H ys us → Vals us its → ∀ j (h1 : j < its.toArray.size), EqIn X.prog X.w X.A.in1 s its.toArray[j] v (dAt ys d j) := by
      intro us its r1 r2 j h1
      have h1' : j < its.length := by simpa using h1
      have l2 := r2.length
      have l1 := r1.len
      have hj : j < ys.length := by omega
      obtain ⟨uj, e1, e2⟩ := r1.get (List.getElem?_eq_getElem hj)
      obtain ⟨ij, e3, e4⟩ := r2.get e1
      have e5 : its.toArray[j] = ij := by
        rw [List.getElem?_eq_getElem h1'] at e3
        simpa using Option.some.inj e3
      have e6 : dAt ys d j = deq ys[j] d := by unfold dAt; rw [List.getElem?_eq_getElem hj]
      rw [e5, e6]
      have hcj := hc _ (List.getElem_mem hj)
      exact eqD (C := c.k) g.hw.symm hok 8 X.A.in1 _ _ _ _ _ _ hcj.2 hcj.1 e2 rd e4 rx (by omega)
    have fin : ∀ {us : List V} {its : List Value}, RDs c.k Z H ys us → Vals us its → EP X pins σ Q (.bool (anyF (dAt ys d) its.toArray.size 0 == b)) s := by
      intro us its r1 r2
      refine epB I ?_
      have l2 := r2.length
      have l1 := r1.len
      have e : its.toArray.size = ys.length := by simp; omega
      rw [e, any_dAt]
      exact q
    rcases ry' with ry' | ry'
    · obtain ⟨a, us, rfl, _, hH, r1⟩ := ry'.lst'
      cases ry
      obtain ⟨its, r2, hl⟩ := lst_at hok hH
      exact hcmp _ _ _ _ (has_lst hl (items r1 r2) (fin r1 r2))
    · obtain ⟨a, us, rfl, hH, r1⟩ := ry'.tup'
      cases ry
      obtain ⟨its, r2, hl⟩ := tup_at hok hH
      exact hcmp _ _ _ _ (has_tup hl (items r1 r2) (fin r1 r2))
  · rw [g.hw] at hok
    obtain ⟨a, oa, xs, rfl, rfl, hs, gd, al⟩ := dct_at (C := c.k) rfl hok rk ry
    have hn := RD.nested hok rd ek rx
    refine hcmp _ _ _ _ ?_
    rw [g.hw]
    refine g_contains g.units hn h8 hs gd fun t => epB (I.tok t) ?_
    have hg := al.get (k := k)
    have e : (gat xs k).isSome = (dget kvs k).isSome := by
      cases q2 : dget kvs k with
      | none => rw [hg.1 q2]; rfl
      | some d2 => obtain ⟨_, _, e1, _⟩ := hg.2 d2 q2; rw [e1]; rfl
    rw [e]
    exact q
  · exact hstr pins s σ H x y v u Q I rx ry h
theorem op_rrIn (g : Fit c lv sc fb N X W) : OpR X (compareOp .In) (rrIn c true) := op_inX g (fun v u s Q h => by
    unfold compareOp
    refine wpAny_bind (thn h fun k s' q => wpAny_pure ?_)
    simpa using q) (by
    intro pins s σ H x y v u Q I rx ry ⟨i, j, e1, e2, q⟩
    exact op_in_str pins s σ H x y v u Q I rx ry ⟨i, j, e1, e2, by simpa using q⟩)
theorem op_rrNin (g : Fit c lv sc fb N X W) : OpR X (compareOp .NotIn) (rrIn c false) := op_inX g (fun v u s Q h => by
    unfold compareOp
    refine wpAny_bind (thn h fun k s' q => wpAny_pure ?_)
    simpa using q) (by
    intro pins s σ H x y v u Q I rx ry ⟨i, j, e1, e2, q⟩
    exact op_notin_str pins s σ H x y v u Q I rx ry ⟨i, j, e1, e2, by simpa using q⟩)
theorem w_inB {o : Op} {b : Bool} (ho : ∀ ds K, opW o ds K = innW b ds K) : OpW2 c o (rrIn c b) := by
  intro B Z H σ e T x y d1 d2 K Q w r1 r2 k q
  rw [ho] at k
  obtain ⟨Z, _, r1, r2⟩ := r1.up2 r2
  cases d2 with
  | lst ys => exact .inl ⟨d1, ys, Z, r1, .inl r2, k.1, q _ _ _ _ (w.pBl _) k.2⟩
  | tup ys => exact .inl ⟨d1, ys, Z, r1, .inr r2, k.1, q _ _ _ _ (w.pBl _) k.2⟩
  | dct kvs =>
    obtain ⟨kk, e1, e2, e3⟩ := k
    exact .inr (.inl ⟨d1, kvs, Z, kk, r1, r2, e1, e2, q _ _ _ _ (w.pBl _) e3⟩)
  | str z2 =>
    cases d1 with
    | str z1 => exact .inr (.inr ⟨z1, z2, r1.str', r2.str', q _ _ _ _ (w.pBl _) k⟩)
    | _ => exact k.elim
  | _ => exact k.elim
/-! subscripts -/
def rrIx (c : Cn) : R2 := fun x y H Q => (∃ p us i w, x = .ref p ∧ y = .int i ∧ (SqL c.k.K H p us ∨ SqT c.k.K H p us) ∧ atI us i = some w ∧ Q w H) ∨
  (∃ z i k, x = .str z ∧ y = .int i ∧ z.length ≤ sizeLine ∧ atI z.cps.toList i = some k ∧ Q (.str ⟨#[k]⟩) H) ∨
  (∃ a d kvs Z k r, x = .ref a ∧ RD c.k Z H d y ∧ DicAt c.k Z H a kvs ∧ D.key d = some k ∧ k.depth ≤ 8 ∧ dget kvs k = some r ∧ ∀ v, RD c.k Z H r v → Q v H)
theorem ix_dict (g : Fit c lv sc fb N X W) : IxR X (fun x y H Q => ∃ a d kvs Z k r, x = .ref a ∧ RD c.k Z H d y ∧ DicAt c.k Z H a kvs ∧ D.key d = some k ∧ k.depth ≤ 8 ∧ dget kvs k = some r ∧ ∀ v, RD c.k Z H r v → Q v H) := by
  rintro value slice pins s σ H x y v u Q I rx ry ⟨a, d, kvs, Z, k, r, rfl, rd, da, ek, h8, hr, q⟩ hs
  cases rx
  have hok := I.hok
  rw [g.hw] at hok
  obtain ⟨oa, xs, _, gd, al, _, _, _⟩ := da.gd hok
  have hn := RD.nested hok rd ek ry
  obtain ⟨vv, vx, e1, e2, e3⟩ := (al.get (k := k)).2 r hr
  rw [g.hw]
  refine subscriptTail_builtinR (x := vv) gd.ty slot_dict_getitem.lookup (g_getItem (Q := fun z s' => z = vv ∧ EP X pins σ Q z s') g.units hn h8 gd e1 fun t => ⟨rfl, vx, H, I.tok t, e2, q vx e3⟩) hs
theorem ix_all (g : Fit c lv sc fb N X W) : IxR X (rrIx c) := by
  intro value slice pins s σ H x y v u Q I rx ry h hs
  rcases h with ⟨a, us, i, w1, rfl, rfl, hq, e1, q⟩ | ⟨z, i, k, rfl, rfl, hz, hk, q⟩ | h
  · rcases hq with hq | hq
    · exact ix_list value slice pins s σ H _ _ v u Q I rx ry ⟨a, us, i, w1, rfl, rfl, by rw [g.hK]; exact hq, e1, q⟩ hs
    · exact ix_tup value slice pins s σ H _ _ v u Q I rx ry ⟨a, us, i, w1, rfl, rfl, by rw [g.hK]; exact hq, e1, q⟩ hs
  · exact ix_str value slice pins s σ H _ _ v u Q I rx ry ⟨z, i, k, rfl, rfl, hz, hk, q⟩ hs
  · exact ix_dict g value slice pins s σ H x y v u Q I rx ry h hs
theorem RV.keyed {C : Kx} {Z : Addr → Prop} {H : Hp} {d : D} {v : V} {k : NestedKey} (r : RV C Z H d v) (h : D.key d = some k) : RD C Z H d v := by
  have q := r.r
  cases d <;> first | exact q | (simp [D.key] at h)
theorem w_idx : OpW2 c .idx (rrIx c) := by
  intro B Z H σ e T x y d1 d2 K Q w r1 r2 k q
  cases d1 with
  | lst xs =>
    cases d2 <;> first | exact k.elim | skip
    obtain ⟨r, hr, kr⟩ := k
    obtain ⟨a, us, rfl, hH, rd⟩ := r1.lst'
    obtain ⟨w1, e1, e2⟩ := atI_map rd hr
    exact .inl ⟨a, us, _, w1, rfl, r2.int', .inl (.of hH), e1, q _ _ _ _ (w.push e2) kr⟩
  | tup xs =>
    cases d2 <;> first | exact k.elim | skip
    obtain ⟨r, hr, kr⟩ := k
    obtain ⟨a, us, rfl, hH, rd⟩ := r1.tup'
    obtain ⟨w1, e1, e2⟩ := atI_map rd hr
    exact .inl ⟨a, us, _, w1, rfl, r2.int', .inr (.of hH), e1, q _ _ _ _ (w.push e2) kr⟩
  | str z =>
    cases d2 <;> first | exact k.elim | skip
    obtain ⟨h1, ch, h2, h3⟩ := k
    exact .inr (.inl ⟨z, _, ch, r1.str', r2.int', h1, h2, q _ _ _ _ (w.pStr _) h3⟩)
  | dct kvs =>
    obtain ⟨kk, r, e1, e2, e3, e4⟩ := k
    obtain ⟨a, rfl, da⟩ := r1.dic
    exact .inr (.inr ⟨a, d2, kvs, Z, kk, r, rfl, r2.keyed e1, da, e1, e2, e3, fun v rv => q _ _ _ _ (w.push rv) e4⟩)
  | _ => cases d2 <;> exact k.elim
theorem e_idx {x y : Expr} (g : Fit c lv sc fb N X W) (ha : PE X x (tX c W a)) (hb : PE X y (tX c W b)) (hs : noSlice y = true) : PE X (.Subscript x y pos) (tE c W (.op .idx [a, b])) :=
  e_op2 (pe_ix (ix_all g) ha hb (plainIx_of hs)) w_idx
/-! len -/
def rrLen (c : Cn) : List V → Hp → VK → Prop := fun vs H Q => ∃ v d Z n, vs = [v] ∧ RD c.k Z H d v ∧ (∃ K, lenW [d] K ∧ ∀ r, K r → r = .pu (.int n)) ∧ Q (.int n) H
theorem call_lenX (g : Fit c lv sc fb N X W) : CallR X (.builtin "len") (fun vs H Q => ∃ v d Z, vs = [v] ∧ RD c.k Z H d v ∧ lenW [d] fun r => ∃ n, r = .pu (.int n) ∧ Q (.int n) H) := by
  rintro pins s σ H vs us Q I r ⟨v, d, Z, rfl, rd, k⟩
  have lib : ∀ n, LenV X.K v H n → Q (.int n) H → wpAny (model X.prog X.w) X.A (call (.builtin "len") us) (EP X pins σ Q) X.xe s := fun n h q => call_len pins s σ H [v] us Q I r ⟨v, n, rfl, h, q⟩
  cases d with
  | lst xs =>
    obtain ⟨a, us', rfl, _, hH, r1⟩ := rd.lst'
    obtain ⟨n, e, q⟩ := k
    cases e
    exact lib _ (.inl ⟨us', .of hH, r1.len.symm⟩) q
  | scr xs =>
    obtain ⟨a, us', rfl, hH, r1⟩ := rd.scr' c.k.K rfl
    obtain ⟨n, e, q⟩ := k
    cases e
    exact lib _ (.inl ⟨us', by rw [g.hK]; exact hH, r1.len.symm⟩) q
  | tup xs =>
    obtain ⟨a, us', rfl, hH, r1⟩ := rd.tup'
    obtain ⟨n, e, q⟩ := k
    cases e
    exact lib _ (.inr ⟨us', .of hH, r1.len.symm⟩) q
  | str z =>
    cases rd.str'
    obtain ⟨hz, n, e, q⟩ := k
    cases e
    exact lib _ ⟨hz, rfl⟩ q
  | dct kvs =>
    obtain ⟨n, e, q⟩ := k
    cases e
    obtain ⟨u, rfl, ru⟩ := vals1 r
    have hok := I.hok
    rw [g.hw] at hok
    obtain ⟨a, oa, xs, rfl, rfl, hs, gd, al⟩ := dct_at (C := c.k) rfl hok rd ru
    have hl : kvs.length ≤ sizeLine := by
      obtain ⟨a2, e2, da⟩ := rd.dic
      obtain ⟨_, _, _, _, _, _, h, _⟩ := da.gd hok
      exact h
    have hz := sizeLine_eq
    rw [g.hw]
    refine g_lenC hs gd (by rw [al.len]; omega) ⟨.int kvs.length, H, I.tok _, ⟨_, by rw [al.len]⟩, q⟩
  | _ => exact k.elim
theorem w_len : OpWn c .len (fun vs H Q => ∃ v d Z, vs = [v] ∧ RD c.k Z H d v ∧ lenW [d] fun r => ∃ n, r = .pu (.int n) ∧ Q (.int n) H) := by
  intro B Z H σ e T vs ds K Q w r k q
  rcases ds with _ | ⟨d, _ | ⟨d2, ds⟩⟩
  · exact k.elim
  · obtain ⟨v, rfl, rv⟩ := RVs.one r
    obtain ⟨Z2, _, rv⟩ := rv.up
    refine ⟨v, d, Z2, rfl, rv, ?_⟩
    cases d <;> first | exact k.elim | exact ⟨_, rfl, q _ _ _ _ (w.pInt _) k⟩ | exact ⟨k.1, _, rfl, q _ _ _ _ (w.pInt _) k.2⟩
  · cases d <;> exact k.elim
end
end DS
/-! DS10b: more operations over data. -/
namespace DS
open PySem PySem.Spec PyProof.Rows L2
section
variable {c : Cn} {lv : Nat} {sc : Scope} {fb : Str → Bool} {N : List Str} {X : Cx} {W : WX} {xa xb xc : Expr} {rest : List Expr} {p pos apos cpos : Pos} {a b d : E}
theorem ints_vals {C : Kx} {Z : Addr → Prop} {H : Hp} : ∀ {xs : List D} {us : List V} {ns : List Int}, RDs C Z H xs us → intsOf xs = some ns → us = ns.map V.int
  | [], us, ns, r, h => by simp only [intsOf, Option.some.injEq] at h; subst h; simp only [RDs] at r; exact r
  | x :: xs, us, ns, r, h => by
    simp only [RDs] at r
    obtain ⟨v, q, rfl, h1, h2⟩ := r
    cases x <;> simp only [intsOf, reduceCtorEq, Option.map_eq_some_iff] at h
    obtain ⟨l, h3, rfl⟩ := h
    rw [ints_vals h2 h3, h1.int', List.map_cons]
theorem strs_vals {C : Kx} {Z : Addr → Prop} {H : Hp} : ∀ {xs : List D} {us : List V} {ns : List Str}, RDs C Z H xs us → strsOf xs = some ns → us = ns.map V.str
  | [], us, ns, r, h => by simp only [strsOf, Option.some.injEq] at h; subst h; simp only [RDs] at r; exact r
  | x :: xs, us, ns, r, h => by
    simp only [RDs] at r
    obtain ⟨v, q, rfl, h1, h2⟩ := r
    cases x <;> simp only [strsOf, reduceCtorEq, Option.map_eq_some_iff] at h
    obtain ⟨l, h3, rfl⟩ := h
    rw [strs_vals h2 h3, h1.str', List.map_cons]
theorem bools_vals {C : Kx} {Z : Addr → Prop} {H : Hp} : ∀ {xs : List D} {us : List V} {ns : List Bool}, RDs C Z H xs us → boolsOf xs = some ns → us = ns.map V.bl
  | [], us, ns, r, h => by simp only [boolsOf, Option.some.injEq] at h; subst h; simp only [RDs] at r; exact r
  | x :: xs, us, ns, r, h => by
    simp only [RDs] at r
    obtain ⟨v, q, rfl, h1, h2⟩ := r
    cases x <;> simp only [boolsOf, reduceCtorEq, Option.map_eq_some_iff] at h
    obtain ⟨l, h3, rfl⟩ := h
    rw [bools_vals h2 h3, h1.bl', List.map_cons]
theorem RD.ints {C : Kx} {Z : Addr → Prop} {H : Hp} : ∀ (ns : List Int), RDs C Z H (ns.map .int) (ns.map V.int)
  | [] => by simp only [List.map_nil, RDs]
  | n :: ns => by simp only [List.map_cons, RDs]; exact ⟨_, _, rfl, by simp only [RD], RD.ints ns⟩
theorem RD.strs {C : Kx} {Z : Addr → Prop} {H : Hp} : ∀ (ns : List Str), RDs C Z H (ns.map .str) (ns.map V.str)
  | [] => by simp only [List.map_nil, RDs]
  | n :: ns => by simp only [List.map_cons, RDs]; exact ⟨_, _, rfl, by simp only [RD], RD.strs ns⟩
theorem w_sum (hK : X.K = c.k.K) : OpWn c .sum (rSum X.K) := by
  intro B Z H σ e T vs ds K Q w r k q
  simp only [opW] at k
  unfold sumW at k
  split at k
  · obtain ⟨v, rfl, rv⟩ := RVs.one r
    obtain ⟨ns, h1, h2⟩ := k
    obtain ⟨a, us, rfl, hH, rd⟩ := rv.lst'
    have := ints_vals rd h1
    subst this
    exact ⟨a, ns, rfl, .of hH, q _ _ _ _ (w.pInt _) h2⟩
  · exact k.elim
theorem w_all (hK : X.K = c.k.K) : OpWn c .allOf (rAll X.K) := by
  intro B Z H σ e T vs ds K Q w r k q
  simp only [opW] at k
  unfold allW at k
  split at k
  · obtain ⟨v, rfl, rv⟩ := RVs.one r
    obtain ⟨ns, h1, h2⟩ := k
    obtain ⟨a, us, rfl, hH, rd⟩ := rv.lst'
    have := bools_vals rd h1
    subst this
    exact ⟨a, ns, rfl, .of hH, q _ _ _ _ (w.pBl _) h2⟩
  · exact k.elim
theorem w_any (hK : X.K = c.k.K) : OpWn c .anyOf (rAny X.K) := by
  intro B Z H σ e T vs ds K Q w r k q
  simp only [opW] at k
  unfold allW at k
  split at k
  · obtain ⟨v, rfl, rv⟩ := RVs.one r
    obtain ⟨ns, h1, h2⟩ := k
    obtain ⟨a, us, rfl, hH, rd⟩ := rv.lst'
    have := bools_vals rd h1
    subst this
    exact ⟨a, ns, rfl, .of hH, q _ _ _ _ (w.pBl _) h2⟩
  · exact k.elim
theorem w_maxl (hK : X.K = c.k.K) : OpWn c .maxl (rMax X.K) := by
  intro B Z H σ e T vs ds K Q w r k q
  simp only [opW] at k
  unfold maxlW at k
  split at k
  · obtain ⟨v, rfl, rv⟩ := RVs.one r
    obtain ⟨ns, h1, h3, h2⟩ := k
    obtain ⟨a, us, rfl, hH, rd⟩ := rv.lst'
    have := ints_vals rd h1
    subst this
    exact ⟨a, ns, rfl, .of hH, h3, fun m m1 m2 => q _ _ _ _ (w.pInt _) (h2 m m1 m2)⟩
  · exact k.elim
theorem w_minl (hK : X.K = c.k.K) : OpWn c .minl (rMin X.K) := by
  intro B Z H σ e T vs ds K Q w r k q
  simp only [opW] at k
  unfold maxlW at k
  split at k
  · obtain ⟨v, rfl, rv⟩ := RVs.one r
    obtain ⟨ns, h1, h3, h2⟩ := k
    obtain ⟨a, us, rfl, hH, rd⟩ := rv.lst'
    have := ints_vals rd h1
    subst this
    exact ⟨a, ns, rfl, .of hH, h3, fun m m1 m2 => q _ _ _ _ (w.pInt _) (h2 m m1 m2)⟩
  · exact k.elim
/-! list(x) -/
theorem RDs.of_keys {C : Kx} {Z : Addr → Prop} {H : Hp} {kvs : List (D × D)} {es : List DictEntry} (r : RDk C Z H kvs es) : ∃ vs, Vals vs (es.map (·.key)) ∧ RDs C Z H (kvs.map (·.1)) vs := by
  induction kvs generalizing es with
  | nil => simp only [RDk] at r; subst r; exact ⟨[], .nil, by simp only [List.map_nil, RDs]⟩
  | cons p kvs ih =>
    simp only [RDk] at r
    obtain ⟨e, er, k, kv, vv, rfl, _, _, _, r1, r2, r3, r4, h⟩ := r
    obtain ⟨vs, h1, h2⟩ := ih h
    exact ⟨kv :: vs, .cons r1 h1, by simp only [List.map_cons, RDs]; exact ⟨_, _, rfl, r3, h2⟩⟩
theorem RDs.of_vals {C : Kx} {Z : Addr → Prop} {H : Hp} {kvs : List (D × D)} {es : List DictEntry} (r : RDk C Z H kvs es) : ∃ vs, Vals vs (es.map (·.val)) ∧ RDs C Z H (kvs.map (·.2)) vs := by
  induction kvs generalizing es with
  | nil => simp only [RDk] at r; subst r; exact ⟨[], .nil, by simp only [List.map_nil, RDs]⟩
  | cons p kvs ih =>
    simp only [RDk] at r
    obtain ⟨e, er, k, kv, vv, rfl, _, _, _, r1, r2, r3, r4, h⟩ := r
    obtain ⟨vs, h1, h2⟩ := ih h
    exact ⟨vv :: vs, .cons r2 h1, by simp only [List.map_cons, RDs]; exact ⟨_, _, rfl, r4, h2⟩⟩
theorem acc_keys {es : Array DictEntry} {acc : Array Value} {f : DictEntry → Value} (h : ItemsOf (fun i v => ∃ hi : i < es.size, v = f es[i]) acc es.size) : acc.toList = es.toList.map f := by
  refine List.ext_getElem? fun j => ?_
  obtain ⟨h1, h2⟩ := h
  rw [List.getElem?_map]
  by_cases hj : j < es.size
  · obtain ⟨_, e⟩ := h2 j acc[j] (Array.getElem?_eq_getElem (by omega))
    rw [Array.getElem?_toList, Array.getElem?_toList, Array.getElem?_eq_getElem (by omega), Array.getElem?_eq_getElem hj, e]
    rfl
  · rw [Array.getElem?_toList, Array.getElem?_toList, Array.getElem?_eq_none (by omega), Array.getElem?_eq_none (by omega)]
    rfl
def rListX (c : Cn) : List V → Hp → VK → Prop := fun xs H Q => (∃ p ys, xs = [.ref p] ∧ (SqL c.k.K H p ys ∨ SqT c.k.K H p ys) ∧ ∀ l, H l = none → Q (.ref l) (upd H l (.lst ys))) ∨
  ∃ a kvs Z, xs = [.ref a] ∧ DicAt c.k Z H a kvs ∧ ∀ l ys, RDs c.k Z H (kvs.map (·.1)) ys → H l = none → Q (.ref l) (upd H l (.lst ys))
theorem call_listX (g : Fit c lv sc fb N X W) : CallR X (.type "list") (rListX c) := by
  intro pins s σ H xs us Q I r h
  rcases h with ⟨a, ys, rfl, hq, q⟩ | ⟨a, kvs, Z, rfl, da, q⟩
  · exact call_list_of pins s σ H _ us Q I r ⟨a, ys, rfl, by rw [g.hK]; exact hq, q⟩
  · obtain ⟨u, rfl, rx⟩ := vals1 r
    cases rx
    obtain ⟨o, es, ep, e1, e2, e3, e4, e5, e6, e7⟩ := da
    have raw := pin_raw I e1 e3 e4
    have hl : es.size = kvs.length := by have := e7.get.1; rw [Array.length_toList] at this; exact this
    refine PySem.W.kdl_call (PySem.KdlSrc.rawDict (es := es) (ep := ep) e2) (I.ok.hd g.calm) raw (by rw [hl]; exact e5) fun h' tk acc c' hk hD hacc => ?_
    obtain ⟨vs, hv, rd⟩ := RDs.of_keys e7
    have ha := acc_keys (f := (·.key)) hacc
    refine ⟨.ref s.heap.objs.size, upd H s.heap.objs.size (.lst vs), I.laid (t' := tk) hk (Nat.le_refl _)
      (show ObjOk X.prog X.w _ _ _ (.lst vs) from ⟨by rw [rd.len, List.length_map]; exact e5, acc.toList, c', by rw [ha]; exact hv, by rw [Array.toArray_toList]; exact hD⟩), rfl, q _ _ rd (I.hok.fresh (Nat.le_refl _))⟩
theorem w_listOf : OpWn c .listOf (rListX c) := by
  intro B Z H σ e T vs ds K Q w r k q
  simp only [opW] at k
  unfold listW at k
  split at k
  · obtain ⟨v, rfl, rv⟩ := RVs.one r
    obtain ⟨a, us, rfl, hH, rd⟩ := rv.lst'
    exact .inl ⟨a, us, rfl, .inl (.of hH), fun l hl => q _ _ _ _ (w.pLst rd hl) k⟩
  · obtain ⟨v, rfl, rv⟩ := RVs.one r
    obtain ⟨a, us, rfl, hH, rd⟩ := rv.tup'
    exact .inl ⟨a, us, rfl, .inr (.of hH), fun l hl => q _ _ _ _ (w.pLst rd hl) k⟩
  · obtain ⟨v, rfl, rv⟩ := RVs.one r
    obtain ⟨a, rfl, da⟩ := rv.dic
    exact .inr ⟨a, _, Z, rfl, da, fun l ys rd hl => q _ _ _ _ (w.pLst rd hl) k⟩
  · exact k.elim
end
end DS
/-! DS10c: dicts made anew. -/
namespace DS
open PySem PySem.Spec PyProof.Rows L2
section
variable {c : Cn} {lv : Nat} {sc : Scope} {fb : Str → Bool} {N : List Str} {X : Cx} {W : WX} {xa xb xc : Expr} {rest : List Expr} {p pos apos cpos : Pos} {a b d : E}
/-- new objects, nothing else changed -/
theorem Wd.grow {C : Kx} {B : Bs} {Z : Addr → Prop} {H H' : Hp} {σ : Sl} {e : Ev} {T : Tm} (w : Wd C B Z H σ e T) (h : ∀ a o, H a = some o → H' a = some o) : Kp Z Z H H' ∧ Wd C B Z H' σ e T ∧
    ∀ {o : O} {p : Addr}, H p = none → (∃ u, H' p = some u) → RO C Z H' o (.ref p) [p] → Wd C B Z H' σ e ((o, .ref p) :: T) := by
  obtain ⟨F, G, h1, h2, h3, h4⟩ := w.ex
  have k : Kp Z Z H H' := ⟨fun _ h => h, fun a z => by obtain ⟨x, q⟩ := w.zs a z; rw [q]; exact h a x q, fun a xs q => h a _ q⟩
  have kF : ∀ a ∈ F, H' a = H a := fun a ha => by obtain ⟨x, q, _⟩ := h1.own a ha; rw [q]; exact h a x q
  have kG : ∀ a ∈ G, H' a = H a := fun a ha => by obtain ⟨x, q, _⟩ := h2.own a ha; rw [q]; exact h a x q
  have zs' : ∀ a, Z a → ∃ x, H' a = some x := fun a z => by
    obtain ⟨x, q⟩ := w.zs a z
    exact ⟨x, h a x q⟩
  have fr' : ∀ a x, B.H0 a = some x → a ∉ B.F0 → H' a = some x := fun a x q hf => h a x (w.fr a x q hf)
  refine ⟨k, ⟨⟨F, G, h1.keep k kF, h2.keep k kG, h3, h4⟩, zs', w.z0, w.z1, fr', w.io⟩, fun {o p} hp hu r => ?_⟩
  have np : ¬ Z p := fun z => by obtain ⟨x, q⟩ := w.zs p z; rw [hp] at q; cases q
  have mp : B.mine p := by
    cases q : B.H0 p with
    | none => exact .inl q
    | some x =>
      by_cases hf : p ∈ B.F0
      · exact .inr hf
      · have := w.fr p x q hf
        rw [hp] at this
        cases this
  have pF : p ∉ F ++ G := by
    intro hm
    rcases List.mem_append.mp hm with hm | hm
    · obtain ⟨x, q, _⟩ := h1.own p hm
      rw [hp] at q; cases q
    · obtain ⟨x, q, _⟩ := h2.own p hm
      rw [hp] at q; cases q
  refine ⟨⟨F, p :: G, h1.keep k kF, ?_, ?_, ?_⟩, zs', w.z0, w.z1, fr', w.io⟩
  · simp only [Temps]
    exact ⟨[p], G, rfl, r, h2.keep k kG⟩
  · exact (List.perm_middle.nodup_iff).mpr (List.nodup_cons.mpr ⟨pF, h3⟩)
  · intro a ha
    rcases List.mem_cons.mp (List.perm_middle.mem_iff.mp ha) with rfl | ha
    · exact ⟨np, mp⟩
    · exact h4 a ha
theorem Wd.pDic {C : Kx} {B : Bs} {Z : Addr → Prop} {H : Hp} {σ : Sl} {e : Ev} {T : Tm} {kvs : List (D × D)} {p : Addr} {o : Obj} (w : Wd C B Z H σ e T) (hp : H p = none) (h : Kp Z Z H (upd H p (pin p o)) → DicAt C Z (upd H p (pin p o)) p kvs) : Wd C B Z (upd H p (pin p o)) σ e ((.fd kvs, .ref p) :: T) :=
  w.newOwn hp (h (w.new hp _).1).ro
theorem pin_new {P : Program} {w : World} {H : Hp} {h : Heap} {a : Addr} {o : Obj} (e : h.get? a = some o) : ObjOk P w H h a (pin a o) := ⟨e, ⟨o, e⟩, fun _ _ h1 k => k o h1⟩
/-- {} -/
theorem e_dnew : PE X (.Dict [] [] pos) (tE c W (.op .dct [])) := by
  refine ⟨fun pins s σ H Q I hh => ?_⟩
  obtain ⟨B, Z, e, T, K, R, wd, we, q, ex⟩ := hh
  unfold wE wAs at we
  obtain ⟨ds, hd, we⟩ := we
  simp only [avD, Option.some.injEq] at hd
  subst hd
  simp only [opW, dctW, asK] at we
  have hn := I.hok.fresh (Nat.le_refl s.heap.objs.size)
  have ho : (s.heap.push { cls := .type "dict", data := .dict #[] }).get? s.heap.objs.size = some { cls := .type "dict", data := .dict #[] } := Heap.get?_push_size _ rfl
  refine wpAny_Dict_empty ⟨.ref s.heap.objs.size, _, I.laid (a := s.heap.objs.size) (o := pin s.heap.objs.size { cls := .type "dict", data := .dict #[] }) (t' := s.toks) (fun _ _ q => Heap.get?_push_of_some _ q) (Nat.le_refl _) (pin_new ho), rfl, ?_⟩
  refine q _ Z _ _ _ (wd.pDic (kvs := []) hn fun _ => ⟨_, #[], 0, upd_same, beq_eq_false_iff_ne.mpr (Ne.symm (Nat.ne_of_lt I.big)), ⟨rfl, rfl, rfl⟩, rfl, Nat.zero_le _, trivial, ?_⟩) we
  simp only [RDk]
/-! keys that are ints and texts -/
def nk : L2.Key → NestedKey
  | .inl i => .num i
  | .inr x => .text x
def kD : L2.Key → D
  | .inl i => .int i
  | .inr x => .str x
theorem plainK_some {d : D} {k : NestedKey} (h : plainK d = some k) : ∃ q : L2.Key, d = kD q ∧ k = nk q := by
  cases d <;> simp only [plainK, reduceCtorEq, Option.some.injEq] at h
  · rename_i i; exact ⟨.inl i, rfl, h.symm⟩
  · rename_i i; exact ⟨.inr i, rfl, h.symm⟩
theorem key_kD (q : L2.Key) : D.key (kD q) = some (nk q) := by cases q <;> simp [kD, nk, D.key]
theorem rd_kD {C : Kx} {Z : Addr → Prop} {H : Hp} (q : L2.Key) : RD C Z H (kD q) (kV q) := by cases q <;> simp [kD, kV, RD]
theorem nk_inj {a b : L2.Key} (h : nk a = nk b) : a = b := by
  cases a <;> cases b <;> simp only [nk, reduceCtorEq, NestedKey.num.injEq, NestedKey.text.injEq] at h
  · rw [h]
  · rw [h]
theorem nk_depth (q : L2.Key) : (nk q).depth ≤ 8 := by cases q <;> simp [nk, NestedKey.depth]
theorem nk_hash (w : World) (q : L2.Key) : (nk q).hash w = keyH w q := by cases q <;> simp [nk, NestedKey.hash, keyH]
abbrev RKs (C : Kx) (Z : Addr → Prop) (H : Hp) : List (D × D) → List (L2.Key × V) → Prop := Paired fun p q => p.1 = kD q.1 ∧ RD C Z H p.2 q.2
theorem RKs.keep {C : Kx} {Z Z' : Addr → Prop} {H H' : Hp} (k : Kp Z Z' H H') {kvs : List (D × D)} {kv : List (L2.Key × V)} (r : RKs C Z H kvs kv) : RKs C Z' H' kvs kv := by
  induction r with
  | nil => exact .nil
  | cons h t ih => exact .cons ⟨h.1, h.2.keep k⟩ ih
theorem leafKeys_cons {p : D × D} {r : List (D × D)} (h : leafKeys (p :: r) = true) : (∃ k, plainK p.1 = some k) ∧ leafKeys r = true := by
  unfold leafKeys at h ⊢
  simp only [List.all_cons, Bool.and_eq_true, Option.isSome_iff_exists] at h
  exact h
/-- plain entries by the library's keys -/
theorem toMix {C : Kx} {P : Program} {Z : Addr → Prop} {H : Hp} : ∀ {kvs : List (D × D)} {es : List DictEntry}, RDk C Z H kvs es → leafKeys kvs = true →
    ∃ (kv : List (L2.Key × V)) (vs : List (L2.Key × Value)), RKs C Z H kvs kv ∧ KV kv vs ∧ Pairs (mixKind P C.w) es vs ∧ ∀ e ∈ es, ∃ k, (mixKind P C.w).is k e.key = true ∧ e.hash = (mixKind P C.w).hash k
  | [], es, h, _ => by simp only [RDk] at h; subst h; exact ⟨[], [], .nil, .nil, .nil, fun e he => by cases he⟩
  | p :: r, es, h, hl => by
    simp only [RDk] at h
    obtain ⟨e, er, k, kv, vv, rfl, h1, h2, h3, r1, r2, r3, r4, h⟩ := h
    obtain ⟨⟨k0, hk⟩, hl2⟩ := leafKeys_cons hl
    obtain ⟨q, hq, rfl⟩ := plainK_some hk
    obtain ⟨kvr, vsr, g1, g2, g3, g4⟩ := toMix h hl2
    rw [hq, key_kD] at h1
    cases h1
    have ekv : kv = kV q := by
      rw [hq] at r3
      cases q with
      | inl i => exact r3.int'
      | inr x => exact r3.str'
    subst ekv
    have his : (mixKind P C.w).is q e.key = true := by
      cases q with
      | inl i => obtain ⟨t, e1⟩ := (show ∃ t, e.key = Value.int i t from r1); rw [e1]; exact keyIs_int i t
      | inr x => obtain ⟨t, e1⟩ := (show ∃ t, e.key = Value.str x t from r1); rw [e1]; exact keyIs_str x t
    refine ⟨(q, vv) :: kvr, (q, e.val) :: vsr, .cons ⟨hq, r4⟩ g1, .cons ⟨rfl, r2⟩ g2, .cons his rfl g3, fun e' he => ?_⟩
    rcases List.mem_cons.mp he with rfl | he
    · exact ⟨q, his, by rw [h3, nk_hash]; rfl⟩
    · exact g4 e' he
theorem RKs.fst {C : Kx} {Z : Addr → Prop} {H : Hp} {kvs : List (D × D)} {kv : List (L2.Key × V)} (r : RKs C Z H kvs kv) : kvs.map (·.1) = (kv.map (·.1)).map kD := by
  induction r with
  | nil => rfl
  | cons h t ih => simp only [List.map_cons, ih, h.1]
theorem dnodup_iff {kvs : List (D × D)} {ks : List L2.Key} (h : kvs.map (·.1) = ks.map kD) : DNodup kvs ↔ ks.Nodup := by
  induction kvs generalizing ks with
  | nil => cases ks with
    | nil => simp [DNodup]
    | cons => simp at h
  | cons p r ih =>
    cases ks with
    | nil => simp at h
    | cons k ks =>
      simp only [List.map_cons, List.cons.injEq] at h
      simp only [DNodup, List.nodup_cons, ih h.2, h.1, key_kD]
      refine and_congr_left fun _ => ⟨fun g hm => ?_, fun g q hq e => ?_⟩
      · have : kD k ∈ r.map (·.1) := by rw [h.2]; exact List.mem_map.mpr ⟨k, hm, rfl⟩
        obtain ⟨q, hq, e⟩ := List.mem_map.mp this
        exact g q hq (by rw [e, key_kD])
      · have : q.1 ∈ ks.map kD := by rw [← h.2]; exact List.mem_map.mpr ⟨q, hq, rfl⟩
        obtain ⟨k', hk, e2⟩ := List.mem_map.mp this
        rw [← e2, key_kD] at e
        have := nk_inj (Option.some.inj e)
        subst this
        exact g hk
theorem DicAt.mix {C : Kx} {P : Program} {Z : Addr → Prop} {H : Hp} {h : Heap} {a : Addr} {kvs : List (D × D)} (hok : HOk P C.w H h) (da : DicAt C Z H a kvs) (hl : leafKeys kvs = true) :
    ∃ (kv : List (L2.Key × V)) (vs : List (L2.Key × Value)) (ep : Nat), RKs C Z H kvs kv ∧ KV kv vs ∧ h.DictAt (mixKind P C.w) a vs ep ∧ (a == sysModules) = false ∧ vs.length ≤ sizeLine ∧ kvs.length = vs.length := by
  obtain ⟨o, es, ep, e1, e2, e3, e4, e5, e6, e7⟩ := da
  obtain ⟨kv, vs, g1, g2, g3, g4⟩ := toMix (P := P) e7 hl
  have l1 : kvs.length = kv.length := Paired.length g1
  have l2 : kv.length = vs.length := Paired.length g2
  refine ⟨kv, vs, ep, g1, g2, ⟨o, es, (hok a _ e1).1, e3, e4, fun e he => g4 e (by simpa using he), g3, ?_⟩, e2, by omega, by omega⟩
  rw [← g2.keys]
  exact (dnodup_iff g1.fst).mp e6
/-- .. and back -/
theorem ofMix {C : Kx} {P : Program} {Z : Addr → Prop} {H : Hp} : ∀ {kvs : List (D × D)} {kv : List (L2.Key × V)} {vs : List (L2.Key × Value)} {es : List DictEntry}, RKs C Z H kvs kv → KV kv vs → Pairs (mixKind P C.w) es vs → (∀ e ∈ es, ∃ k, (mixKind P C.w).is k e.key = true ∧ e.hash = (mixKind P C.w).hash k) → RDk C Z H kvs es
  | [], _, _, es, .nil, .nil, h, _ => by cases h; simp only [RDk]
  | p :: r, _, _, _, .cons (b := q) h1 t1, .cons (b := u) h2 t2, .cons (e := e) h3 h4 t3, hh => by
    simp only [RDk]
    obtain ⟨k', e1, e2⟩ := hh e (List.mem_cons_self ..)
    have e3 := (mixKind P C.w).inj _ _ _ e1 h3
    have ek : k' = q.1 := e3.trans h2.1.symm
    subst ek
    have hk : RelV (kV q.1) e.key := relV_key (show keyIs q.1 e.key = true from e1)
    exact ⟨e, _, nk q.1, kV q.1, q.2, rfl, by rw [h1.1, key_kD], nk_depth _, by rw [e2, nk_hash]; rfl, hk, by rw [h4]; exact h2.2, by rw [h1.1]; exact rd_kD _, h1.2, ofMix t1 t2 t3 fun e' he => hh e' (List.mem_cons_of_mem _ he)⟩
theorem DicAt.ofMix {C : Kx} {P : Program} {Z : Addr → Prop} {H : Hp} {h : Heap} {a : Addr} {kvs : List (D × D)} {kv : List (L2.Key × V)} {vs : List (L2.Key × Value)} (r : RKs C Z H kvs kv) (q : KV kv vs) (dd : h.DictOf (mixKind P C.w) a vs) (hs : (a == sysModules) = false) (hz : kvs.length ≤ sizeLine) :
    ∃ o, h.get? a = some o ∧ ∀ {Z' : Addr → Prop} {H' : Hp}, Kp Z Z' H H' → H' a = some (pin a o) → DicAt C Z' H' a kvs := by
  obtain ⟨o, es, ep, h1, h2, h3, h4, h5, h6⟩ := dd
  refine ⟨o, h1, fun k e => ⟨o, es, ep, e, hs, h2, h3, hz, ?_, (DS.ofMix (P := P) r q h5 fun e he => h4 e (by simpa using he)).keep k⟩⟩
  rw [dnodup_iff r.fst, q.keys]
  exact h6
/-! dict(d), dict([(k, v), ..]) -/
def rDictX (c : Cn) : List V → Hp → VK → Prop := fun xs H Q => (∃ a kvs Z, xs = [.ref a] ∧ DicAt c.k Z H a kvs ∧ leafKeys kvs = true ∧ ∀ p o, H p = none → (∀ Z' H', Kp Z Z' H H' → H' p = some (pin p o) → DicAt c.k Z' H' p kvs) → Q (.ref p) (upd H p (pin p o))) ∨
  ∃ (a : Addr) (ps : List Addr) (kv : List (L2.Key × V)), xs = [.ref a] ∧ SqL c.k.K H a (ps.map V.ref) ∧ Paired (fun p kv => SqT c.k.K H p [kV kv.1, kv.2]) ps kv ∧
    ∀ p o, H p = none → (∀ Z Z' H' kvs, RKs c.k Z H kvs (mergeK [] kv) → Kp Z Z' H H' → H' p = some (pin p o) → DicAt c.k Z' H' p kvs) → Q (.ref p) (upd H p (pin p o))
theorem call_dictX (g : Fit c lv sc fb N X W) : CallR X (.type "dict") (rDictX c) := by
  intro pins s σ H xs us Q I r h
  have hnew : (s.heap.objs.size == sysModules) = false := beq_eq_false_iff_ne.mpr (Nat.ne_of_gt I.big)
  have hok := I.hok
  rw [g.hw] at hok
  rcases h with ⟨a, kvs, Z, rfl, da, hl, q⟩ | ⟨a, ps, kvs, rfl, hq, hp, q⟩
  · obtain ⟨u, rfl, rx⟩ := vals1 r
    cases rx
    obtain ⟨kv, vs, ep, g1, g2, g3, g4, g5, g6⟩ := da.mix hok hl
    rw [g.hw]
    refine kt_call_dict g4 g3.dictOf g5 fun h' d' hs => ?_
    obtain ⟨o, ho, hd⟩ := DicAt.ofMix g1 g2 d' hnew (by omega)
    exact ⟨.ref s.heap.objs.size, _, I.laid (t' := s.toks) (o := pin s.heap.objs.size o) (fun b u e => (hs.2 b (Nat.ne_of_lt (Heap.lt_size e))).trans (Heap.get?_push_of_some _ e)) (Nat.le_refl _) (pin_new ho), rfl, q _ _ (I.hok.fresh (Nat.le_refl _)) fun Z' H' k e => hd k e⟩
  · obtain ⟨u, rfl, rx⟩ := vals1 r
    cases rx
    rw [← g.hK] at hq
    obtain ⟨its, rv, pl, hz⟩ := I.list hq
    have ei := refs_at rv
    subst ei
    rw [List.length_map] at hz
    rw [← g.hK] at hp
    obtain ⟨prs, rel, hl, hpr⟩ := pairs_of I hp
    obtain ⟨o, n, ho, hc, hd, hdat⟩ := pl
    refine call_dict_pairs (prs := prs) (I.ok.hd g.calm) ho hc hd hdat (by simp [hl]) (by rw [hl]; exact hz) (fun j q' e => ?_) fun h' tk hd' k => ?_
    · obtain ⟨b, u, e1, e2, e3⟩ := hpr j q' e
      exact ⟨b, u, by simp [e1], e2, e3⟩
    · have hlen : (mergeK [] kvs).length ≤ sizeLine := by
        refine Nat.le_trans (length_mergeK kvs []) ?_
        rw [List.length_nil, Nat.zero_add, rel.length, hl]
        exact hz
      rw [g.hw] at hd'
      obtain ⟨od, hod⟩ : ∃ o, h'.get? s.heap.objs.size = some o := by obtain ⟨o, _, _, e, _⟩ := hd'; exact ⟨o, e⟩
      refine ⟨.ref s.heap.objs.size, _, I.laid (t' := tk) (o := pin s.heap.objs.size od) k (Nat.le_refl _) (pin_new hod), rfl, q _ _ (I.hok.fresh (Nat.le_refl _)) fun Z Z' H' kvs' hr kp e => ?_⟩
      obtain ⟨o2, ho2, hd2⟩ := DicAt.ofMix hr (KV.merge rel .nil) hd' hnew (by rw [Paired.length hr]; exact hlen)
      rw [hod] at ho2
      cases ho2
      exact hd2 kp e
theorem putK_fst {ka : List (L2.Key × V)} {q : L2.Key} {v : V} : (putK ka q v).map (·.1) = if (ka.any fun kv => decide (kv.1 = q)) = true then ka.map (·.1) else ka.map (·.1) ++ [q] := by
  unfold putK
  split
  · rw [List.map_map]
    refine List.map_congr_left fun x _ => ?_
    simp only [Function.comp]
    split <;> rfl
  · simp
theorem putK_nd {ka : List (L2.Key × V)} {q : L2.Key} {v : V} (h : (ka.map (·.1)).Nodup) : ((putK ka q v).map (·.1)).Nodup := by
  rw [putK_fst]
  split
  · exact h
  · rename_i hn
    refine List.nodup_append.mpr ⟨h, by simp, fun a ha b hb e => hn ?_⟩
    simp only [List.mem_singleton] at hb
    subst hb e
    obtain ⟨x, hx, e⟩ := List.mem_map.mp ha
    exact List.any_eq_true.mpr ⟨x, hx, by simp [e]⟩
theorem putK_cons_ne {p : L2.Key × V} {ka : List (L2.Key × V)} {q : L2.Key} {v : V} (h : p.1 ≠ q) : putK (p :: ka) q v = p :: putK ka q v := by
  unfold putK
  simp only [List.any_cons, h, decide_false, Bool.false_or, List.map_cons, if_false, List.cons_append]
  split <;> rfl
theorem putK_cons_eq {p : L2.Key × V} {ka : List (L2.Key × V)} {v : V} (h : p.1 ∉ ka.map (·.1)) : putK (p :: ka) p.1 v = (p.1, v) :: ka := by
  unfold putK
  rw [if_pos (by simp)]
  simp only [List.map_cons, if_true, List.cons.injEq, true_and]
  refine (List.map_congr_left (g := id) fun x hx => ?_).trans (List.map_id _)
  rw [if_neg fun e => h (List.mem_map.mpr ⟨x, hx, e⟩)]
  rfl
theorem rks_put {C : Kx} {Z : Addr → Prop} {H : Hp} {q0 : L2.Key} {dv : D} {v2 : V} {acc : List (D × D)} {ka : List (L2.Key × V)} (r : RKs C Z H acc ka) (nd : (ka.map (·.1)).Nodup) (h : RD C Z H dv v2) : RKs C Z H (dput acc (kD q0) (nk q0) dv) (putK ka q0 v2) := by
  induction r with
  | nil => exact .cons ⟨rfl, h⟩ .nil
  | @cons p q ps qs h1 t ih =>
    simp only [List.map_cons, List.nodup_cons] at nd
    unfold dput
    rw [h1.1, key_kD]
    by_cases e : q.1 = q0
    · subst e
      rw [if_pos rfl, putK_cons_eq nd.1]
      exact .cons ⟨rfl, h⟩ t
    · rw [if_neg (fun g => e (nk_inj (Option.some.inj g))), putK_cons_ne e]
      exact .cons h1 (ih nd.2)
theorem pairsW_ok {C : Kx} {Z : Addr → Prop} {H : Hp} : ∀ {xs : List D} {us : List V} {acc : List (D × D)} {ka : List (L2.Key × V)} {K : List (D × D) → Prop}, RDs C Z H xs us → RKs C Z H acc ka → (ka.map (·.1)).Nodup → pairsW xs acc K →
    ∃ (ps : List Addr) (kv : List (L2.Key × V)) (kvs : List (D × D)), us = ps.map V.ref ∧ Paired (fun p kv => H p = some (.tup [kV kv.1, kv.2])) ps kv ∧ RKs C Z H kvs (mergeK ka kv) ∧ K kvs
  | [], us, acc, ka, K, r, ra, nd, h => by
    simp only [RDs] at r
    simp only [pairsW] at h
    exact ⟨[], [], acc, r, .nil, ra, h⟩
  | x :: xs, us, acc, ka, K, r, ra, nd, h => by
    simp only [RDs] at r
    obtain ⟨v, q, rfl, h1, h2⟩ := r
    unfold pairsW at h
    split at h
    · rename_i e; cases e
    · rename_i k dv r' e
      cases e
      obtain ⟨kk, hk, h⟩ := h
      obtain ⟨q0, rfl, rfl⟩ := plainK_some hk
      obtain ⟨a, vs, rfl, hH, rd⟩ := h1.tup'
      obtain ⟨v1, v2, rfl, g1, g2⟩ := rd.two
      have e1 : v1 = kV q0 := by
        cases q0 with
        | inl i => exact g1.int'
        | inr x => exact g1.str'
      subst e1
      have rp := rks_put (q0 := q0) ra nd g2
      obtain ⟨ps, kv, kvs, f1, f2, f3, f4⟩ := pairsW_ok h2 rp (putK_nd nd) h
      exact ⟨a :: ps, (q0, v2) :: kv, kvs, by rw [f1, List.map_cons], .cons hH f2, f3, f4⟩
    · exact h.elim
theorem w_dictOf : OpWn c .dictOf (rDictX c) := by
  intro B Z H σ e T vs ds K Q w r k q
  simp only [opW] at k
  unfold dictW at k
  split at k
  · obtain ⟨v, rfl, rv⟩ := RVs.one r
    obtain ⟨a, rfl, da⟩ := rv.dic
    exact .inl ⟨a, _, Z, rfl, da, k.1, fun p o hp hd => q _ _ _ _ (w.pDic hp fun kp => hd _ _ kp upd_same) k.2⟩
  · obtain ⟨v, rfl, rv⟩ := RVs.one r
    obtain ⟨a, us, rfl, hH, rd⟩ := rv.lst'
    obtain ⟨ps, kv, kvs, rfl, f2, f3, f4⟩ := pairsW_ok rd .nil List.nodup_nil k
    refine .inr ⟨a, ps, kv, rfl, .of hH, ?_, fun p o hp hd => q _ _ _ _ (w.pDic hp fun kp => hd _ _ _ _ f3 kp upd_same) f4⟩
    clear f3 f4 hH rd
    induction f2 with
    | nil => exact .nil
    | cons h t ih => exact .cons (.of h) ih
  · exact k.elim
end
end DS
/-! DS10d: more operations: texts, items, sorted, isinstance. -/
namespace DS
open PySem PySem.Spec PyProof.Rows L2
def lineB (a b : Pos) : Bool := a.endLine == b.line
def baseB : Expr → Bool
  | .Call (.Name _ _) [] [] _ => false
  | _ => true
theorem base_of {x : Expr} (h : baseB x = true) (f : Str) (env : Env) : attributeBase x f env (eval x env) = eval x env := by
  unfold attributeBase
  split
  · simp [baseB] at h
  · rfl
section
variable {c : Cn} {lv : Nat} {sc : Scope} {fb : Str → Bool} {N : List Str} {X : Cx} {W : WX} {xa xb xc : Expr} {rest : List Expr} {p p2 pos apos cpos : Pos} {a b d : E}
/-! str, int -/
def rStrX : List V → Hp → VK → Prop := fun xs H Q => (∃ i, xs = [.int i] ∧ i.natAbs.log2 < 1920 ∧ Q (.str (toString i)) H) ∨ (∃ a, xs = [.str a] ∧ Q (.str a) H) ∨ ∃ b : Bool, xs = [.bl b] ∧ Q (.str (if b = true then "True" else "False")) H
theorem call_strX : CallR X (.type "str") rStrX := by
  intro pins s σ H xs us Q I r h
  rcases h with h | h | ⟨b, rfl, q⟩
  · exact call_str_int pins s σ H xs us Q I r h
  · exact SkE.call_str_str pins s σ H xs us Q I r h
  · obtain ⟨u, rfl, rx⟩ := vals1 r
    cases rx
    exact PySem.P.str_of_bool ⟨.str _, H, I.tok _, ⟨_, rfl⟩, q⟩
theorem w_strOf : OpWn c .strOf rStrX := by
  intro B Z H σ e T vs ds K Q w r k q
  simp only [opW] at k
  unfold strW at k
  split at k
  · obtain ⟨v, rfl, rv⟩ := RVs.one r
    have e1 := rv.int'
    subst e1
    exact .inl ⟨_, rfl, k.1, q _ _ _ _ (w.pStr _) k.2⟩
  · obtain ⟨v, rfl, rv⟩ := RVs.one r
    have e1 := rv.str'
    subst e1
    exact .inr (.inl ⟨_, rfl, q _ _ _ _ (w.pStr _) k⟩)
  · obtain ⟨v, rfl, rv⟩ := RVs.one r
    have e1 := rv.bl'
    subst e1
    exact .inr (.inr ⟨_, rfl, q _ _ _ _ (w.pStr _) k⟩)
  · exact k.elim
def rIntX : List V → Hp → VK → Prop := fun xs H Q => ((∃ i, xs = [.int i] ∧ Q (.int i) H) ∨ ∃ k, xs = [.bl k] ∧ Q (.int (if k then 1 else 0)) H) ∨ ∃ a n, xs = [.str a] ∧ PySem.intText? a = some n ∧ a.length ≤ 640 ∧ Q (.int n) H
theorem call_intX : CallR X (.type "int") rIntX := by
  intro pins s σ H xs us Q I r h
  rcases h with h | h
  · exact call_int1 pins s σ H xs us Q I r h
  · exact call_int_str pins s σ H xs us Q I r h
theorem w_intOf : OpWn c .intOf rIntX := by
  intro B Z H σ e T vs ds K Q w r k q
  simp only [opW] at k
  unfold intW at k
  split at k
  · obtain ⟨v, rfl, rv⟩ := RVs.one r
    have e1 := rv.int'
    subst e1
    exact .inl (.inl ⟨_, rfl, q _ _ _ _ (w.pInt _) k⟩)
  · obtain ⟨v, rfl, rv⟩ := RVs.one r
    have e1 := rv.bl'
    subst e1
    exact .inl (.inr ⟨_, rfl, q _ _ _ _ (w.pInt _) k⟩)
  · obtain ⟨v, rfl, rv⟩ := RVs.one r
    have e1 := rv.str'
    subst e1
    obtain ⟨n, h1, h2, h3⟩ := k
    exact .inr ⟨_, n, rfl, h1, h2, q _ _ _ _ (w.pInt _) h3⟩
  · exact k.elim
/-! list(d.items()), list(d.values()) -/
def tListItX (c : Cn) (te : TE) : TE := fun σ H Q => te σ H fun x H1 => ∃ a kvs Z, x = .ref a ∧ DicAt c.k Z H1 a kvs ∧ leafKeys kvs = true ∧
  ∀ (H' : Hp) (p : Addr) (vs : List V), (∀ b o, H1 b = some o → H' b = some o) → H1 p = none → H' p = some (.lst vs) → (Kp Z Z H1 H' → RDs c.k Z H' (kvs.map fun p => .tup [p.1, p.2]) vs) → Q (.ref p) H'
theorem pe_listItX {e : Expr} {te : TE} (g : Fit c lv sc fb N X W) (he : PE X e te) (hg : Gl X "list") (hm : X.mg "list" = none) (hbase : attributeBase e "items" X.env (eval e X.env) = eval e X.env) (hline : (apos.endLine == cpos.line) = true) :
    PE X (.Call (.Name "list" p) [.Call (.Attribute e "items" apos) [] [] cpos] [] pos) (tListItX c te) := by
  have hs : starEach [.Call (.Attribute e "items" apos) [] [] cpos] X.env = (false, eval (.Call (.Attribute e "items" apos) [] [] cpos) X.env) :: starEach [] X.env := rfl
  refine ⟨fun pins s σ H Q I hq => ?_⟩
  refine wpAny_Call_Name_kw (ld_blt I hg hm (by rfl) ?_)
  refine PyProof.Rows.callWith_type1 ?_ hs rfl
  rw [hs]
  show wpAny _ _ (spliced ((false, eval (.Call (.Attribute e "items" apos) [] [] cpos) X.env) :: backTo pos (starEach [] X.env))) _ _ s
  refine Calls.spliced_cons ?_
  refine wpAny_Call_method (T := "dict") (id := "dict.items") hbase rfl hline F.plainAttrs_dict F.slot_dict_items F.type_dict_items (thn (he.run pins s σ H _ I hq) fun u s1 ⟨x, H1, I1, rx, d, kvs, Z, ex, da, hl, q⟩ => ?_)
  subst ex
  obtain rfl : u = Value.ref d := rx
  have hok := I1.hok
  rw [g.hw] at hok
  obtain ⟨kv, vs, ep, g1, g2, g3, g4, g5, g6⟩ := da.mix hok hl
  have lk : kv.length = vs.length := Paired.length g2
  have I2 : Inv X pins σ H1 { s1 with heap := s1.heap.push { cls := .type "dict_items", data := .fields #[.ref d] } } := I1.kept (t' := s1.toks) fun b ob q => Heap.get?_push_of_some _ q
  have hdo := g3.dictOf
  refine ⟨hdo.typeIs, hdo.mapOf.noDict, ?_⟩
  show wpAny _ _ (callWith cpos (.builtin "dict.items") [.ref d] [] []) _ X.xe s1
  rw [g.hw]
  refine method_meetsIn F.slot_dict_items F.entry_dict_items rfl (PySem.evalArgs_none ⟨rfl, hdo.typeIs, F.args_dict_items_1 _, _, meets_dict_items (mixKind X.prog c.k.w) d g4, ⟨vs, hdo⟩, ?_⟩)
  refine Calls.spliced_nil ?_
  refine PySem.W.kdx_call (knd := mixKind X.prog c.k.w) (kvs := vs) (ep := ep) (I1.ok.hd g.calm) ⟨_, Heap.get?_push_size _ rfl, rfl, rfl⟩ (g3.push _) (by omega) fun h' tk acc c' as hk hS hl' hG hacc => ?_
  rw [← g.hw] at hG
  obtain ⟨H', k1, k2, k3, k4, k5, k6, J⟩ := LiI.items_laid (tk := tk) I2 (by omega) g2 hk hS hl' hG hacc
  refine ⟨.ref _, H', J, rfl, q H' _ _ k1 ?_ k5 fun kp => ?_⟩
  · exact k2
  · have g1' := RKs.keep kp g1
    clear g1 g2 hG hacc k5 hl' da hl q g6 lk
    revert k6
    generalize as = l
    intro k6
    induction g1' generalizing l with
    | nil => cases k6; simp only [List.map_nil, RDs]
    | @cons p' q' ps qs h1 t ih =>
      cases k6 with
      | cons h2 t2 =>
        simp only [List.map_cons, RDs]
        refine ⟨_, _, rfl, ?_, ih _ t2⟩
        simp only [RD, RDs]
        exact ⟨_, _, rfl, h2, _, _, rfl, by rw [h1.1]; exact rd_kD _, _, _, rfl, h1.2, rfl⟩
theorem e_itemsL {e : Expr} (g : Fit c lv sc fb N X W) (he : PE X e (tX c W a)) (hg : Gl X "list") (hm : X.mg "list" = none) (hb : baseB e = true) (hline : lineB apos cpos = true) :
    PE X (.Call (.Name "list" p) [.Call (.Attribute e "items" apos) [] [] cpos] [] pos) (tE c W (.op .itemsL [a])) := by
  refine PE.imp (pe_listItX g he hg hm (base_of hb _ _) hline) ?_
  rintro σ H Q ⟨B, Z, e, T, K, R, wd, we, q, ex⟩
  refine opRead1 wd we ex fun v1 Z1 H1 e1 d w1 r1 k1 => ?_
  cases d <;> simp only [opW, itemsW] at k1
  rename_i kvs
  obtain ⟨a1, rfl, da⟩ := r1.dic
  refine ⟨a1, kvs, Z1, rfl, da, k1.1, fun H' p' vs hk hn hp hr => ?_⟩
  obtain ⟨kp, w2, w3⟩ := w1.grow hk
  refine q _ _ _ _ _ (w3 hn ⟨_, hp⟩ ?_) k1.2
  simp only [RO]
  exact ⟨p', vs, rfl, rfl, hp, hr kp⟩
def tListVaX (c : Cn) (te : TE) : TE := fun σ H Q => te σ H fun x H1 => ∃ a kvs Z, x = .ref a ∧ DicAt c.k Z H1 a kvs ∧
  ∀ (p : Addr) (vs : List V), H1 p = none → RDs c.k Z H1 (kvs.map (·.2)) vs → Q (.ref p) (upd H1 p (.lst vs))
theorem pe_listVaX {e : Expr} {te : TE} (g : Fit c lv sc fb N X W) (he : PE X e te) (hg : Gl X "list") (hm : X.mg "list" = none) (hbase : attributeBase e "values" X.env (eval e X.env) = eval e X.env) (hline : (apos.endLine == cpos.line) = true) :
    PE X (.Call (.Name "list" p) [.Call (.Attribute e "values" apos) [] [] cpos] [] pos) (tListVaX c te) := by
  have hs : starEach [.Call (.Attribute e "values" apos) [] [] cpos] X.env = (false, eval (.Call (.Attribute e "values" apos) [] [] cpos) X.env) :: starEach [] X.env := rfl
  refine ⟨fun pins s σ H Q I hq => ?_⟩
  refine wpAny_Call_Name_kw (ld_blt I hg hm (by rfl) ?_)
  refine PyProof.Rows.callWith_type1 ?_ hs rfl
  rw [hs]
  show wpAny _ _ (spliced ((false, eval (.Call (.Attribute e "values" apos) [] [] cpos) X.env) :: backTo pos (starEach [] X.env))) _ _ s
  refine Calls.spliced_cons ?_
  refine wpAny_Call_method (T := "dict") (id := "dict.values") hbase rfl hline F.plainAttrs_dict F.slot_dict_values F.type_dict_values (thn (he.run pins s σ H _ I hq) fun u s1 ⟨x, H1, I1, rx, d, kvs, Z, ex, da, q⟩ => ?_)
  subst ex
  obtain rfl : u = Value.ref d := rx
  obtain ⟨o, es, ep, e1, e2, e3, e4, e5, e6, e7⟩ := da
  have raw := pin_raw I1 e1 e3 e4
  have hl : es.size = kvs.length := by have := e7.get.1; rw [Array.length_toList] at this; exact this
  refine ⟨raw.typeIs, noDict_of raw, ?_⟩
  have I2 : Inv X pins σ H1 { s1 with heap := s1.heap.push { cls := .type "dict_values", data := .fields #[.ref d] } } := I1.kept (t' := s1.toks) fun b ob e => Heap.get?_push_of_some _ e
  refine method_meetsIn F.slot_dict_values F.entry_dict_values rfl (PySem.evalArgs_none ⟨rfl, raw.typeIs, F.args_dict_values_1 _, _, meets_dict_values_raw d e2, ⟨_, _, raw⟩, ?_⟩)
  refine Calls.spliced_nil ?_
  refine PySem.W.kdl_call (PySem.KdlSrc.rawValues (es := es) (ep := ep)) (I1.ok.hd g.calm) ⟨⟨_, Heap.get?_push_size _ rfl, rfl, rfl⟩, raw.push _⟩ (by rw [hl]; exact e5) fun h' tk acc c' hk hD hacc => ?_
  obtain ⟨vs, hv, rd⟩ := RDs.of_vals e7
  have ha := acc_keys (f := (·.val)) hacc
  refine ⟨.ref _, _, I2.laid (t' := tk) (o := .lst vs) hk (Nat.le_refl _)
    (show ObjOk X.prog X.w _ _ _ (.lst vs) from ⟨by rw [rd.len, List.length_map]; exact e5, acc.toList, c', by rw [ha]; exact hv, by rw [Array.toArray_toList]; exact hD⟩), rfl, q _ _ (I2.hok.fresh (Nat.le_refl _)) rd⟩
theorem e_valsL {e : Expr} (g : Fit c lv sc fb N X W) (he : PE X e (tX c W a)) (hg : Gl X "list") (hm : X.mg "list" = none) (hb : baseB e = true) (hline : lineB apos cpos = true) :
    PE X (.Call (.Name "list" p) [.Call (.Attribute e "values" apos) [] [] cpos] [] pos) (tE c W (.op .valsL [a])) := by
  refine PE.imp (pe_listVaX g he hg hm (base_of hb _ _) hline) ?_
  rintro σ H Q ⟨B, Z, e, T, K, R, wd, we, q, ex⟩
  refine opRead1 wd we ex fun v1 Z1 H1 e1 d w1 r1 k1 => ?_
  cases d <;> simp only [opW, valsW] at k1
  obtain ⟨a1, rfl, da⟩ := r1.dic
  exact ⟨a1, _, Z1, rfl, da, fun p' vs hn hr => q _ _ _ _ _ (w1.pLst hr hn) k1⟩
end
end DS
/-! DS10e: sorted, isinstance, methods of built-in types. -/
namespace DS
open PySem PySem.Spec PyProof.Rows L2
section
variable {c : Cn} {lv : Nat} {sc : Scope} {fb : Str → Bool} {N : List Str} {X : Cx} {W : WX} {xa xb xc : Expr} {rest : List Expr} {p p2 pos apos cpos : Pos} {a b d : E}
theorem call_sortedX : CallR X (.builtin "sorted") (fun vs H Q => rSortedI X.K vs H Q ∨ rSortedS X.K vs H Q) := by
  intro pins s σ H vs us Q I r h
  rcases h with h | h
  · exact cr_sortedI pins s σ H vs us Q I r h
  · exact cr_sortedS pins s σ H vs us Q I r h
theorem w_sorted : OpWn c .sorted (fun vs H Q => rSortedI X.K vs H Q ∨ rSortedS X.K vs H Q) := by
  intro B Z H σ e T vs ds K Q w r k q
  simp only [opW] at k
  unfold sortedW at k
  split at k
  · obtain ⟨v, rfl, rv⟩ := RVs.one r
    obtain ⟨a, us, rfl, hH, rd⟩ := rv.lst'
    unfold sortW at k
    split at k
    · rename_i ns hn
      have := ints_vals rd hn
      subst this
      exact .inl ⟨a, ns, rfl, .of hH, fun ns' p h1 h2 hp => q _ _ _ _ (w.pLst (RD.ints ns') hp) (k ns' h1 h2)⟩
    · split at k
      · rename_i ys hn
        have := strs_vals rd hn
        subst this
        exact .inr ⟨a, ys, rfl, .of hH, k.1, fun ns' p h1 h2 hp => q _ _ _ _ (w.pLst (RD.strs ns') hp) (k.2 ns' h1 h2)⟩
      · exact k.elim
  · exact k.elim
/-! isinstance -/
theorem kit_dic {u : Value} {H : Hp} {s : Shared} {pins : List (Addr × Obj)} {σ : Sl} {a : Addr} {o : Obj} (I : Inv X pins σ H s) (e : H a = some (pin a o)) (hx : o.ExactDict) (r : RelV (.ref a) u) : ∃ P : Heap → Prop, PySem.W.KitX X.K u (.type "dict") P ∧ P s.heap ∧ u ≠ .builtin "__main__.__loader__#opaque" := by
  cases (show u = Value.ref a from r)
  exact ⟨_, PySem.W.kitx_dict, ⟨o, pin_get I e, hx.1⟩, fun z => nomatch z⟩
theorem kit_rv {C : Kx} {Z : Addr → Prop} {H : Hp} {d : D} {v : V} {u : Value} {s : Shared} {pins : List (Addr × Obj)} {σ : Sl} (hK : X.K = C.K) (I : Inv X pins σ H s) (r : RV C Z H d v) (hp : plainTy d = true) (rv : RelV v u) :
    ∃ P : Heap → Prop, PySem.W.KitX X.K u (.type (tyNm d)) P ∧ P s.heap ∧ u ≠ .builtin "__main__.__loader__#opaque" := by
  cases d with
  | non => have e := r.non'; subst e; exact kit_of I rv (.base .non)
  | bl b => have e := r.bl'; subst e; exact kit_of I rv (.base (.bl _))
  | int b => have e := r.int'; subst e; exact kit_of I rv (.base (.int _))
  | str b => have e := r.str'; subst e; exact kit_of I rv (.base (.str _))
  | lst xs => obtain ⟨a, vs, rfl, h, _⟩ := r.lst'; exact kit_of I rv (.base (.lst h))
  | tup xs => obtain ⟨a, vs, rfl, h, _⟩ := r.tup'; exact kit_of I rv (.base (.tup h))
  | scr xs =>
    obtain ⟨a, vs, rfl, h, _⟩ := r.scr0.scr' C.K rfl
    rw [← hK] at h
    obtain ⟨its, _, pl, _⟩ := I.list h
    cases (show u = Value.ref a from rv)
    obtain ⟨o, n, ho, hc, hd, hdat⟩ := pl
    exact ⟨_, PySem.W.kitx_list, ⟨o, ho, hc⟩, fun z => nomatch z⟩
  | dct kvs =>
    obtain ⟨a, rfl, o, es, ep, e1, e2, e3, _⟩ := r.dic
    exact kit_dic I e1 e3 rv
  | ins k fs => cases hp
  | val v => cases hp
def tyVs (T : List String) : List V := T.map V.ty
theorem tyV_one {t : String} {u : Value} (r : RelV (.ty t) u) : u = .type t := r
/-- the types that isinstance is asked with -/
def isiTys : List String := ["bool", "int", "str", "list", "tuple", "dict"]
theorem isi_one {d : D} {t : String} (hp : plainTy d = true) (ht : t ∈ isiTys) {K : PySem.W.Frag} : PySem.W.kitOne K (.type (tyNm d)) (.type t) = some (isTy d t) := by
  refine kit_ty ?_
  have hall : ∀ n ∈ ["NoneType", "bool", "int", "str", "list", "tuple", "dict"], ∀ t ∈ isiTys, kitB n t = some (n == t || (t == "int" && n == "bool")) := by decide +kernel
  have := hall (tyNm d) (by cases d <;> first | (cases hp; done) | simp [tyNm]) t ht
  exact this
theorem isi_any {d : D} (hp : plainTy d = true) {K : PySem.W.Frag} : ∀ {T : List String}, (∀ t ∈ T, t ∈ isiTys) → PySem.W.kitAny K (.type (tyNm d)) (T.map Value.type) = some (T.any (isTy d))
  | [], _ => kitAny_nil
  | t :: T, h => by
    have h1 := isi_one (d := d) (t := t) (K := K) hp (h t (List.mem_cons_self ..))
    have h2 := isi_any (d := d) (T := T) (K := K) hp fun t' ht => h t' (List.mem_cons_of_mem _ ht)
    refine kitAny_cons h1 (fun e => ?_) fun e => ?_
    · rw [h2, List.any_cons, e, Bool.false_or]
    · rw [List.any_cons, e, Bool.true_or]
def rIsiX (c : Cn) (T : List String) (one : Bool) : List V → Hp → VK → Prop := fun xs H Q => ∃ v d Z, RV c.k Z H d v ∧ plainTy d = true ∧ Q (.bl (T.any (isTy d))) H ∧
  ((one = true ∧ ∃ t, T = [t] ∧ xs = [v, .ty t]) ∨ (one = false ∧ ∃ tp, xs = [v, .ref tp] ∧ H tp = some (.tup (tyVs T))))
theorem tys_vals : ∀ {T : List String} {us : List Value}, Vals (T.map V.ty) us → us = T.map Value.type
  | [], _, r => by cases r; rfl
  | t :: T, _, r => by
    cases r with
    | cons h t2 =>
      rw [List.map_cons, ← tys_vals t2]
      cases (show _ = Value.type t from h)
      rfl
theorem call_isiX {T : List String} {one : Bool} (g : Fit c lv sc fb N X W) (hT : ∀ t ∈ T, t ∈ isiTys) : CallR X (.builtin "isinstance") (rIsiX c T one) := by
  intro pins s σ H xs us Q I r h
  obtain ⟨v, d, Z, rv, hp, q, h⟩ := h
  rcases h with ⟨_, t, rfl, rfl⟩ | ⟨_, tp, rfl, ht⟩
  · obtain ⟨u1, u2, rfl, r1, r2⟩ := vals2 r
    cases (show u2 = Value.type t from r2)
    obtain ⟨P, Z1, p1, hx⟩ := kit_rv g.hK I rv hp r1
    refine PySem.W.kia_one Z1 I.kIn p1 (isi_one hp (hT t (List.mem_cons_self ..))) hx fun tk => ⟨.bl _, H, I.tok tk, rfl, ?_⟩
    simpa using q
  · obtain ⟨u1, u2, rfl, r1, r2⟩ := vals2 r
    cases (show u2 = Value.ref tp from r2)
    obtain ⟨P, Z1, p1, hx⟩ := kit_rv g.hK I rv hp r1
    obtain ⟨_, its, rt, o, h1, h2, n, h3⟩ := (show ObjOk X.prog X.w H s.heap tp (.tup (tyVs T)) from I.hok tp _ ht)
    have e3 := tys_vals (T := T) rt
    subst e3
    obtain ⟨oc, od, dt, sl⟩ := o
    simp only at h2 h3
    subst h2 h3
    exact PySem.W.kia_tup Z1 I.kIn p1 h1 (isi_any hp hT) hx fun tk => ⟨.bl _, H, I.tok tk, rfl, q⟩
def tyNameB (sc : Scope) (t : String) : Expr → Bool
  | .Name y _ => decide (y = Str.ofString t) && glB sc y && !(y == ("__debug__" : Str)) && decide (t ∈ isiTys)
  | _ => false
theorem pe_tyN {t : String} {x : Expr} (g : Fit c lv sc fb N X W) (h : tyNameB sc t x = true) : PE X x (tC (.ty t)) ∧ noStar x = true := by
  unfold tyNameB at h
  split at h
  · simp only [Bool.and_eq_true, decide_eq_true_eq, Bool.not_eq_true'] at h
    obtain ⟨⟨⟨rfl, h2⟩, h3⟩, h4⟩ := h
    refine ⟨?_, rfl⟩
    unfold isiTys at h4
    simp only [List.mem_cons, List.not_mem_nil, or_false] at h4
    rcases h4 with rfl | rfl | rfl | rfl | rfl | rfl
    · exact pe_bltn (gl_of g h2) (g.blt _ (by decide)) (by rfl) rfl
    · exact pe_bltn (gl_of g h2) (g.blt _ (by decide)) (by rfl) rfl
    · exact pe_bltn (gl_of g h2) (g.blt _ (by decide)) (by rfl) rfl
    · exact pe_bltn (gl_of g h2) (g.blt _ (by decide)) (by rfl) rfl
    · exact pe_bltn (gl_of g h2) (g.blt _ (by decide)) (by rfl) rfl
    · exact pe_bltn (gl_of g h2) (g.blt _ (by decide)) (by rfl) rfl
  · cases h
def tyNamesB (sc : Scope) : List String → List Expr → Bool
  | [], [] => true
  | t :: T, x :: xs => tyNameB sc t x && tyNamesB sc T xs
  | _, _ => false
theorem pa_tyNs (g : Fit c lv sc fb N X W) : ∀ {T : List String} {xs : List Expr}, tyNamesB sc T xs = true → PA X xs (fun _ H Q => Q (tyVs T) H) ∧ ∀ t ∈ T, t ∈ isiTys
  | [], [], _ => ⟨PA.imp pa_nil fun _ _ _ h => h, fun t h => by cases h⟩
  | t :: T, x :: xs, h => by
    simp only [tyNamesB, Bool.and_eq_true] at h
    obtain ⟨h1, h2⟩ := pa_tyNs g h.2
    obtain ⟨h3, h4⟩ := pe_tyN g h.1
    refine ⟨PA.imp (pa_cons h3 h1 (star_of h4 _)) fun _ _ _ h => h, fun t' ht => ?_⟩
    rcases List.mem_cons.mp ht with rfl | ht
    · have h5 := h.1
      unfold tyNameB at h5
      split at h5
      · simp only [Bool.and_eq_true, decide_eq_true_eq] at h5; exact h5.2
      · cases h5
    · exact h2 t' ht
  | [], _ :: _, h => by simp [tyNamesB] at h
  | _ :: _, [], h => by simp [tyNamesB] at h
theorem RV.grow {C : Kx} {Z : Addr → Prop} {H H' : Hp} {d : D} {v : V} (k : Kp Z Z H H') (h : ∀ a o, H a = some o → H' a = some o) (r : RV C Z H d v) : RV C Z H' d v := by
  constructor
  cases d with
  | lst xs => obtain ⟨a, vs, e, q, rd⟩ := r.lst'; exact ⟨a, vs, e, h _ _ q, rd.keep k⟩
  | dct kvs => obtain ⟨a, e, o, es, ep, h1, h2, h3, h4, h5, h6, h7⟩ := r.dic; exact ⟨a, e, o, es, ep, h _ _ h1, h2, h3, h4, h5, h6, h7.keep k⟩
  | _ => exact RD.keep k r.r
/-- isinstance(x, T), isinstance(x, (T, ..)) -/
theorem e_isi1 {x y : Expr} {t : String} (g : Fit c lv sc fb N X W) (ha : PE X x (tX c W a)) (hx : noStar x = true) (hg : glB sc "isinstance" = true) (hy : tyNameB sc t y = true) : PE X (.Call (.Name "isinstance" p) [x, y] [] pos) (tE c W (.op (.isi [t]) [a])) := by
  obtain ⟨h1, h2⟩ := pe_tyN g hy
  obtain ⟨_, h3⟩ := pa_tyNs (T := [t]) (xs := [y]) g (by simp [tyNamesB, hy])
  refine PE.imp (pe_callB (call_isiX (T := [t]) (one := true) g h3) (gl_of g hg) (g.blt _ (by decide)) rfl (pa_cons ha (pa_cons h1 pa_nil (star_of h2 _)) (star_of hx _)) (by decide) (by decide) (star_of hx _) (starPlain _ _ (by simp [h2]))) ?_
  rintro σ H Q ⟨B, Z, e, T', K, R, wd, we, q, ex⟩
  refine opRead1 wd we ex fun v1 Z1 H1 e1 d w1 r1 k1 => ?_
  simp only [opW, isiW, asK] at k1
  exact ⟨v1, d, Z1, r1, k1.1, q _ _ _ _ _ (w1.pBl _) k1.2, .inl ⟨rfl, t, rfl, rfl⟩⟩
theorem e_isiT {x : Expr} {T : List String} {ys : List Expr} {k : Nat} (g : Fit c lv sc fb N X W) (ha : PE X x (tX c W a)) (hx : noStar x = true) (hg : glB sc "isinstance" = true) (hy : tyNamesB sc T ys = true) (hl : T.length ≤ 10) : PE X (.Call (.Name "isinstance" p) [x, .Tuple ys k p2] [] pos) (tE c W (.op (.isi T) [a])) := by
  obtain ⟨h1, h3⟩ := pa_tyNs g hy
  refine PE.imp (pe_callB (call_isiX (T := T) (one := false) g h3) (gl_of g hg) (g.blt _ (by decide)) rfl (pa_cons ha (pa_cons (pe_tup h1) pa_nil (star_of rfl _)) (star_of hx _)) (by decide) (by decide) (star_of hx _) (starPlain _ _ (by simp [noStar]))) ?_
  rintro σ H Q ⟨B, Z, e, T', K, R, wd, we, q, ex⟩
  refine opRead1 wd we ex fun v1 Z1 H1 e1 d w1 r1 k1 => ?_
  simp only [opW, isiW, asK] at k1
  have hs := sizeLine_eq
  refine ⟨by unfold tyVs; rw [List.length_map]; omega, fun tp hn => ?_⟩
  obtain ⟨kp, w2⟩ := w1.new hn (.tup (tyVs T))
  exact ⟨v1, d, Z1, r1.grow kp fun b o hb => (upd_ne (ne_of_none hb hn)).trans hb, k1.1, q _ _ _ _ _ (w2.pBl _) k1.2, .inr ⟨rfl, tp, rfl, upd_same⟩⟩
/-! methods of built-in types -/
/-- a value's type, before the arguments are reckoned -/
def tyW (K : PySem.W.Frag) (T : String) (x : V) (H : Hp) : Prop := tyV K T x H ∨ (T = "dict" ∧ ∃ a o es ep, x = .ref a ∧ H a = some (pin a o) ∧ o.ExactDict ∧ o.data = .dict es ep)
theorem tyW_is {pins : List (Addr × Obj)} {σ : Sl} {H : Hp} {s : Shared} {T : String} {x : V} {v : Value} (I : Inv X pins σ H s) (r : RelV x v) (ty : tyW X.K T x H) : s.TypeIs v T ∧ ∀ a, v = .ref a → ∃ ob, s.heap.get? a = some ob ∧ ob.dict = none := by
  rcases ty with ty | ⟨rfl, a, o, es, ep, rfl, e1, e2, e3⟩
  · exact tyV_is I r ty
  · cases r
    have raw := pin_raw I e1 e2 e3
    exact ⟨raw.typeIs, noDict_of raw⟩
theorem RO.tyW {C : Kx} {Z : Addr → Prop} {H : Hp} {o : O} {v : V} {F : List Addr} {T : String} (r : RO C Z H o v F) (e : tyNm o.fz = T) (hT : T ∈ ["str", "list", "dict"]) : DS.tyW C.K T v H := by
  have dic : ∀ a kvs, DicAt C Z H a kvs → DS.tyW C.K "dict" (.ref a) H := by
    rintro a kvs ⟨o, es, ep, e1, e2, e3, e4, _⟩
    exact .inr ⟨rfl, a, o, es, ep, rfl, e1, e3, e4⟩
  cases o with
  | pu d =>
    simp only [RO] at r
    have r := r.2
    cases d with
    | str z => rw [r.str']; subst e; exact .inl rfl
    | lst xs => obtain ⟨a, vs, rfl, _, h, _⟩ := r.lst'; subst e; exact .inl (.inl ⟨rfl, vs, .of h⟩)
    | dct kvs => obtain ⟨a, rfl, da⟩ := r.dic; subst e; exact dic a kvs da
    | scr xs => obtain ⟨a, vs, rfl, h, _⟩ := r.scr' C.K rfl; subst e; exact .inl (.inl ⟨rfl, vs, h⟩)
    | _ => subst e; simp [O.fz, tyNm] at hT
  | fl xs => simp only [RO] at r; obtain ⟨a, vs, _, rfl, h, _⟩ := r; subst e; exact .inl (.inl ⟨rfl, vs, .of h⟩)
  | fd kvs => obtain ⟨a, _, rfl, da⟩ := r.dic; subst e; exact dic a kvs da
  | tu os => subst e; simp [O.fz, tyNm] at hT
  | ob k fs => subst e; simp [O.fz, tyNm] at hT
def tBMW (K : PySem.W.Frag) (T : String) (r : V → List V → Hp → VK → Prop) (to : TE) (t : TA) : TE := fun σ H Q => to σ H fun x H1 => tyW K T x H1 ∧ t σ H1 fun xs H2 => r x xs H2 Q
theorem few_of {env : Env} {cpos : Pos} : ∀ {xs : List Expr}, xs.all noStar = true → (backTo cpos (starEach xs env)).all (fun x => !x.1) = true
  | [], _ => rfl
  | x :: xs, h => by
    simp only [List.all_cons, Bool.and_eq_true] at h
    have := few_of (env := env) (cpos := cpos) (xs := xs) h.2
    rw [star_of h.1]
    simpa [backTo] using this
theorem pe_bmW {T id : String} {name : Str} {r : V → List V → Hp → VK → Prop} {o e : Expr} {to : TE} {es : List Expr} {t : TA} (pa : PlainAttrs T) (slot : Slot T name id) (hty : typeOf (.builtin id) = pure (.type "method_descriptor")) (hm : MtR X id r) (ho : PE X o to) (ha : PA X (e :: es) t) (hs : (e :: es).all noStar = true) (hl : es.length < 20)
    (hbase : attributeBase o name X.env (eval o X.env) = eval o X.env) (hline : (apos.endLine == cpos.line) = true) : PE X (.Call (.Attribute o name apos) (e :: es) [] cpos) (tBMW X.K T r to t) := by
  refine ⟨fun pins s σ H Q I h => ?_⟩
  have hs2 := hs
  simp only [List.all_cons, Bool.and_eq_true] at hs2
  have hfew : ((backTo cpos (starEach (e :: es) X.env)).all (fun x => !x.1) && (backToKw cpos (keywordEach [] X.env)).all (fun x => x.1.isSome)
    && decide ((e :: es).length + ([] : List Keyword).length + (if ([] : List Keyword).isEmpty then 0 else 1) < 30)) = true := by
    rw [few_of hs]
    simp [backToKw, keywordEach] at hl ⊢
    omega
  refine wpAny_Call_method_late hbase hfew hline rfl (thn (ho.run pins s σ H _ I h) fun v s1 ⟨x, H1, I1, r1, ty, q1⟩ => ?_)
  obtain ⟨h1, h2⟩ := tyW_is I1 r1 ty
  refine ⟨T, id, pa, slot, hty, h1, h2, ?_⟩
  have hA := ha.run cpos pins s1 σ H1 _ I1 q1
  refine Calls.callWith_builtin (starPlain _ _ hs) ?_
  rw [star_of hs2.1] at hA ⊢
  exact Calls.evalArgs_plain (thn hA fun us s2 ⟨vs, H2, I2, r2, q2⟩ => hm pins s2 σ H2 x vs v us Q I2 r1 r2 q2)
theorem pe_bm0W {T id : String} {name : Str} {r : V → List V → Hp → VK → Prop} {o : Expr} {to : TE} (pa : PlainAttrs T) (slot : Slot T name id) (hty : typeOf (.builtin id) = pure (.type "method_descriptor")) (hm : MtR X id r) (ho : PE X o to)
    (hbase : attributeBase o name X.env (eval o X.env) = eval o X.env) (hline : (apos.endLine == cpos.line) = true) : PE X (.Call (.Attribute o name apos) [] [] cpos) (fun σ H Q => to σ H fun x H1 => tyW X.K T x H1 ∧ r x [] H1 Q) := by
  refine ⟨fun pins s σ H Q I h => ?_⟩
  refine wpAny_Call_method0_late hbase hline (thn (ho.run pins s σ H _ I h) fun v s1 ⟨x, H1, I1, r1, ty, q1⟩ => ?_)
  obtain ⟨h1, h2⟩ := tyW_is I1 r1 ty
  exact ⟨T, id, pa, slot, hty, h1, h2, Calls.callWith_builtin rfl (PySem.evalArgs_none (hm pins s1 σ H1 x [] v [] Q I1 r1 .nil q1))⟩
/-- what a method of a built-in type gives -/
def OpWm (c : Cn) (o : Op) (rr : V → List V → Hp → VK → Prop) : Prop := ∀ {B : Bs} {Z : Addr → Prop} {H : Hp} {σ : Sl} {e : Ev} {T : Tm} {x : V} {d : D} {vs : List V} {ds : List D} {K : O → Prop} {Q : VK}, Wd c.k B Z H σ e T → RV c.k Z H d x → RVs c.k Z H ds vs → opW o (d :: ds) K →
  (∀ v Z' H' r, Wd c.k B Z' H' σ e ((r, v) :: T) → K r → Q v H') → rr x vs H Q
theorem mthRead {o : Op} {as : List E} {B : Bs} {Z : Addr → Prop} {H : Hp} {σ : Sl} {e : Ev} {T : Tm} {K : O → Ev → Prop} {R : Xp → Ev → Prop} {Q : VK} (hK : X.K = c.k.K) (hT : mTy o ∈ ["str", "list", "dict"]) (wd : Wd c.k B Z H σ e T) (we : wE c.Γ false (.mth o a as) e K R) (ex : ExTo c B R W)
    (q : ∀ v Z1 H1 e1 av T1, Lk σ av v T1 → Wd c.k B Z1 H1 σ e1 (T1 ++ T) → tyW X.K (mTy o) v H1 → wAs c.Γ as e1 (fun avs e2 => ∃ ds, avD (av :: avs) e2 = some ds ∧ opW o ds fun r => K r e2) R → Q v H1) : tX c W a σ H Q := by
  cases hi : ioB a with
  | true =>
    cases a <;> first | (simp [ioB] at hi; done) | skip
    rename_i i
    unfold wE at we
    obtain ⟨⟨x, d, he, hb, ht⟩, we⟩ := we
    obtain ⟨v, hs, w2⟩ := wd.take he
    obtain ⟨F, hF⟩ := w2.headO
    have hd : x.fz = d := by cases x <;> simp only [bfz, reduceCtorEq, Option.some.injEq] at hb <;> (subst hb; rfl)
    exact ⟨v, hs, q v Z H e (.io i) [] ⟨rfl, hs⟩ wd (by rw [hK]; exact hF.tyW (by rw [hd]; exact ht) hT) we⟩
  | false =>
    rw [tX_v hi]
    have we2 : wE c.Γ false a e (fun x e1 => tyNm x.fz = mTy o ∧ wAs c.Γ as e1 (fun avs e2 => ∃ ds, avD (.v x :: avs) e2 = some ds ∧ opW o ds fun r => K r e2) R) R := by
      cases a <;> first | (simp [ioB] at hi; done) | exact we | (unfold wE at we; exact we)
    refine ⟨B, Z, e, T, _, R, wd, we2, fun v1 Z1 H1 o1 e1 w1 k1 => ?_, ex⟩
    obtain ⟨F, hF⟩ := w1.headO
    exact q v1 Z1 H1 e1 (.v o1) [(o1, v1)] rfl w1 (by rw [hK]; exact hF.tyW k1.1 hT) k1.2
theorem e_mth {o : Op} {id : String} {name : Str} {rr : V → List V → Hp → VK → Prop} {as : List E} {x : Expr} {xs : List Expr} (g : Fit c lv sc fb N X W) (pa : PlainAttrs (mTy o)) (slot : Slot (mTy o) name id) (hty : typeOf (.builtin id) = pure (.type "method_descriptor")) (hm : MtR X id rr) (hw : OpWm c o rr) (hT : mTy o ∈ ["str", "list", "dict"])
    (ho : PE X x (tX c W a)) (ha : PA X xs (tAs c W as)) (hs : xs.all noStar = true) (hl : as.length = xs.length) (h20 : xs.length < 20) (hb : baseB x = true) (hline : lineB apos cpos = true) : PE X (.Call (.Attribute x name apos) xs [] cpos) (tE c W (.mth o a as)) := by
  cases xs with
  | nil =>
    have hn : as = [] := List.length_eq_zero_iff.mp (by simpa using hl)
    subst hn
    refine PE.imp (pe_bm0W pa slot hty hm ho (base_of hb _ _) hline) ?_
    rintro σ H Q ⟨B, Z, e, T, K, R, wd, we, q, ex⟩
    refine mthRead g.hK hT wd we ex fun v Z1 H1 e1 av T1 lk w1 ty k1 => ⟨ty, ?_⟩
    unfold wAs at k1
    obtain ⟨ds, hd, k1⟩ := k1
    obtain ⟨s1, t1⟩ := lk_S lk (as := []) (vs := []) trivial
    have w3 : Wd c.k B Z1 H1 σ e1 ((avT [av] [v]).reverse ++ T) := by rw [t1]; simpa [avT] using w1
    obtain ⟨Z3, kp3, w4, rs⟩ := w3.ops s1 hd
    cases ds with
    | nil => simp [RVs] at rs
    | cons d ds =>
      obtain ⟨_, _, e0, r1, r2⟩ := rs
      cases e0
      exact hw w4 r1 r2 k1 fun u Z' H' r w' kr => q u Z' H' r e1 w' kr
  | cons y ys =>
    refine PE.imp (pe_bmW pa slot hty hm ho ha hs (by simp at h20; omega) (base_of hb _ _) hline) ?_
    rintro σ H Q ⟨B, Z, e, T, K, R, wd, we, q, ex⟩
    refine mthRead g.hK hT wd we ex fun v Z1 H1 e1 av T1 lk w1 ty k1 => ⟨ty, ?_⟩
    refine ⟨B, Z1, e1, T1 ++ T, _, R, w1, k1, fun avs vs Z2 H2 e2 w2 hA hB k2 => ?_, ex⟩
    obtain ⟨ds, hd, k2⟩ := k2
    obtain ⟨s1, t1⟩ := lk_S lk hA
    have w3 : Wd c.k B Z2 H2 σ e2 ((avT (av :: avs) (v :: vs)).reverse ++ T) := by rw [t1]; simpa using w2
    obtain ⟨Z3, kp3, w4, rs⟩ := w3.ops s1 hd
    cases ds with
    | nil => simp [RVs] at rs
    | cons d ds =>
      obtain ⟨_, _, e0, r1, r2⟩ := rs
      cases e0
      exact hw w4 r1 r2 k2 fun u Z' H' r w' kr => q u Z' H' r e2 w' kr
/-! the methods -/
theorem w_join : OpWm c .join (fun x xs H Q => ∃ a p, ∃ ys : List Str, x = .str a ∧ xs = [.ref p] ∧ (SqL c.k.K H p (ys.map V.str) ∨ SqT c.k.K H p (ys.map V.str)) ∧ (ys.map (·.length)).sum + ys.length * a.length ≤ 16777216 ∧ Q (.str (Txt.join a ys)) H) := by
  intro B Z H σ e T x d vs ds K Q w r1 r2 k q
  simp only [opW] at k
  unfold joinW at k
  split at k
  · rename_i e0
    cases e0
    obtain ⟨v, rfl, rv⟩ := RVs.one r2
    obtain ⟨ys, h1, h2, h3⟩ := k
    obtain ⟨a1, us, rfl, hH, rd⟩ := rv.lst'
    have := strs_vals rd h1
    subst this
    exact ⟨_, a1, ys, r1.str', rfl, .inl (.of hH), h2, q _ _ _ _ (w.pStr _) h3⟩
  · exact k.elim
theorem w_upper : OpWm c .upper (fun x xs H Q => ∃ a, x = .str a ∧ xs = [] ∧ a.length ≤ 5592405 ∧ Q (.str (Txt.upper a)) H) := by
  intro B Z H σ e T x d vs ds K Q w r1 r2 k q
  simp only [opW] at k
  unfold upperW at k
  split at k
  · rename_i e0
    cases e0
    exact ⟨_, r1.str', r2, k.1, q _ _ _ _ (w.pStr _) k.2⟩
  · exact k.elim
def rGetX (c : Cn) : V → List V → Hp → VK → Prop := fun x xs H Q => ∃ a kvs Z kd k, x = .ref a ∧ DicAt c.k Z H a kvs ∧ D.key kd = some k ∧ k.depth ≤ 8 ∧
  ((∃ y, xs = [y] ∧ RD c.k Z H kd y ∧ (dget kvs k = none → Q .non H) ∧ ∀ d v, dget kvs k = some d → RD c.k Z H d v → Q v H) ∨
   (∃ y z, xs = [y, z] ∧ RD c.k Z H kd y ∧ (dget kvs k = none → Q z H) ∧ ∀ d v, dget kvs k = some d → RD c.k Z H d v → Q v H))
theorem mt_getX (g : Fit c lv sc fb N X W) : MtR X "dict.get" (rGetX c) := by
  rintro pins s σ H x xs v us Q I rx rs ⟨a, kvs, Z, kd, k, rfl, da, ek, h8, h⟩
  cases rx
  have hok := I.hok
  rw [g.hw] at hok
  obtain ⟨o, xs', _, gd, al, hs, hl, nd⟩ := da.gd hok
  have key : ∀ {y : V} {u : Value}, RD c.k Z H kd y → RelV y u → NestedIs s.heap k u := fun r1 r2 => RD.nested hok r1 ek r2
  have hg := al.get (k := k)
  rw [g.hw]
  rcases h with ⟨y, rfl, rk, h1, h2⟩ | ⟨y, z, rfl, rk, h1, h2⟩
  · obtain ⟨u, rfl, ru⟩ := vals1 rs
    refine g_get1 g.units (key rk ru) h8 hs gd fun t => ?_
    cases e : dget kvs k with
    | none => rw [hg.1 e]; exact ⟨.non, H, I.tok t, rfl, h1 e⟩
    | some d =>
      obtain ⟨vv, v2, e1, e2, e3⟩ := hg.2 d e
      rw [e1]
      exact ⟨v2, H, I.tok t, e2, h2 d v2 e e3⟩
  · obtain ⟨u, u2, rfl, ru, ru2⟩ := vals2 rs
    refine g_get2 g.units (key rk ru) h8 hs gd fun t => ?_
    cases e : dget kvs k with
    | none => rw [hg.1 e]; exact ⟨z, H, I.tok t, ru2, h1 e⟩
    | some d =>
      obtain ⟨vv, v2, e1, e2, e3⟩ := hg.2 d e
      rw [e1]
      exact ⟨v2, H, I.tok t, e2, h2 d v2 e e3⟩
theorem RV.stays {C : Kx} {Z : Addr → Prop} {H : Hp} {d : D} {v : V} (r : RV C Z H d v) (h : stay d = true) : RD C Z H d v := by
  have q := r.r
  cases d <;> first | exact q | (simp [stay] at h)
theorem w_get1 : OpWm c .get1 (rGetX c) := by
  intro B Z H σ e T x d vs ds K Q w r1 r2 k q
  simp only [opW] at k
  unfold get1W at k
  split at k
  · rename_i e0
    cases e0
    obtain ⟨v, rfl, rv⟩ := RVs.one r2
    obtain ⟨kk, h1, h2, h3⟩ := k
    obtain ⟨a1, rfl, da⟩ := r1.dic
    refine ⟨a1, _, Z, _, kk, rfl, da, h1, h2, .inl ⟨v, rfl, rv.keyed h1, fun e => ?_, fun d2 v2 e rd => ?_⟩⟩
    · rw [e] at h3; exact q _ _ _ _ (w.push (by simp only [RD, Option.getD_none])) h3
    · rw [e] at h3; exact q _ _ _ _ (w.push rd) h3
  · exact k.elim
theorem w_get2 : OpWm c .get2 (rGetX c) := by
  intro B Z H σ e T x d vs ds K Q w r1 r2 k q
  simp only [opW] at k
  unfold get2W at k
  split at k
  · rename_i e0
    cases e0
    obtain ⟨v, u, rfl, rv, ru⟩ := RVs.two r2
    obtain ⟨hst, kk, h1, h2, h3⟩ := k
    obtain ⟨a1, rfl, da⟩ := r1.dic
    refine ⟨a1, _, Z, _, kk, rfl, da, h1, h2, .inr ⟨v, u, rfl, rv.keyed h1, fun e => ?_, fun d2 v2 e rd => ?_⟩⟩
    · rw [e] at h3
      exact q _ _ _ _ (w.push (ru.stays hst)) h3
    · rw [e] at h3; exact q _ _ _ _ (w.push rd) h3
  · exact k.elim
/-! xs[::-1] -/
def revSl : Expr → Bool
  | .Slice none none (some (.UnaryOp .USub (.Constant (.int 1) _ _) _)) _ => true
  | _ => false
theorem RDs.rev {C : Kx} {Z : Addr → Prop} {H : Hp} : ∀ {xs : List D} {us : List V}, RDs C Z H xs us → RDs C Z H xs.reverse us.reverse
  | [], us, r => by simp only [RDs] at r; subst r; simp only [List.reverse_nil, RDs]
  | x :: xs, us, r => by
    simp only [RDs] at r
    obtain ⟨v, q, rfl, h1, h2⟩ := r
    rw [List.reverse_cons, List.reverse_cons]
    exact (RDs.rev h2).app (by simp only [RDs]; exact ⟨v, [], rfl, h1, rfl⟩)
end
end DS
/-! DS10f: a tuple turned round. -/
namespace DS
open PySem PySem.Spec PyProof.Rows L2
theorem sliceApplied_rev {prog : Program} {w : World} {A : Around} {E : Value → Shared → Prop} {s : Shared} {sl : Addr} {t : Tok} {n : Nat} {Q : Int × Int × Nat → Shared → Prop} (h : s.heap.IsSliceOf sl .none .none (.int (-1) t)) (q : Q ((n : Int) - 1, -1, n) s) :
    wpAny (model prog w) A (Builtin.Slice.sliceApplied (.ref sl) (pure (n : Int))) Q E s := by
  obtain ⟨o, h1, h2, h3⟩ := h
  unfold Builtin.Slice.sliceApplied Builtin.Slice.sliceFields
  refine wpAny_bind (wpAny_bind (wpAny_field h1 h3 rfl (wpAny_bind (wpAny_field h1 h3 rfl (wpAny_bind (wpAny_field h1 h3 rfl (wpAny_pure ?_)))))))
  refine wpAny_bind (HT.slicePart_ (.int (-1) t) ?_)
  simp only [Option.getD_some]
  rw [if_neg (by decide)]
  refine wpAny_bind (slicePart_none (wpAny_bind (slicePart_none (wpAny_bind (wpAny_pure ?_)))))
  have e1 : Builtin.Slice.sliceAdjust none none (-1) (n : Int) = ((n : Int) - 1, -1) := by
    unfold Builtin.Slice.sliceAdjust
    simp
  have e2 : Builtin.Slice.slicePlaces ((n : Int) - 1) (-1) (-1) = n := by
    unfold Builtin.Slice.slicePlaces
    rw [if_neg (by decide)]
    split
    · have : ((n : Int) - 1 - -1 - 1) / - -1 + 1 = n := by
        rw [show - (-1 : Int) = 1 from rfl, Int.ediv_one]; omega
      rw [this]; rfl
    · omega
  rw [e1]
  refine wpAny_pure ?_
  rw [e2]
  exact q
theorem fm_congr {α β : Type} {f g : α → Option β} : ∀ {l : List α}, (∀ a ∈ l, f a = g a) → l.filterMap f = l.filterMap g
  | [], _ => rfl
  | a :: l, h => by
    rw [List.filterMap_cons, List.filterMap_cons, h a (List.mem_cons_self ..), fm_congr fun b hb => h b (List.mem_cons_of_mem _ hb)]
theorem pick_rev {xs : List Value} : List.filterMap (fun k : Nat => xs.toArray[((xs.toArray.size : Int) - 1 + (k : Int) * -1).toNat]?) (List.range xs.toArray.size) = xs.reverse := by
  have h : ∀ k ∈ List.range xs.length, (fun k : Nat => xs.toArray[((xs.toArray.size : Int) - 1 + (k : Int) * -1).toNat]?) k = xs.reverse[k]? := by
    intro k hk
    have hk' : k < xs.length := List.mem_range.1 hk
    show xs.toArray[((xs.toArray.size : Int) - 1 + (k : Int) * -1).toNat]? = _
    rw [List.getElem?_reverse hk']
    simp only [List.size_toArray, List.getElem?_toArray]
    congr 1
    omega
  rw [List.size_toArray]
  rw [List.size_toArray] at h
  rw [fm_congr h]
  have : ∀ ys : List Value, List.filterMap (fun k => ys[k]?) (List.range ys.length) = ys := by
    intro ys
    induction ys with
    | nil => rfl
    | cons y ys ih =>
      rw [List.length_cons, List.range_succ_eq_map, List.filterMap_cons, List.filterMap_map]
      simp only [List.getElem?_cons_zero, Function.comp_def, List.getElem?_cons_succ]
      rw [ih]
  have h2 := this xs.reverse
  rw [List.length_reverse] at h2
  exact h2
theorem getItem_tuple_rev {prog : Program} {w : World} {A : Around} {E : Value → Shared → Prop} {s : Shared} {t sl : Addr} {xs : List Value} {tk : Tok} {Q : Value → Shared → Prop} (h : IsTup s.heap t xs.toArray) (hs : s.heap.IsSliceOf sl .none .none (.int (-1) tk)) (hl : xs.length ≤ sizeLine)
    (q : Q (.ref s.heap.objs.size) { heap := s.heap.push { cls := .type "tuple", data := .seq xs.reverse.toArray }, gens := s.gens, drawn := s.drawn, toks := s.toks, os := s.os }) : wpAny (model prog w) A (getItem (.ref t) (.ref sl)) Q E s := by
  have ht : s.TypeIs (.ref t) "tuple" := h.typeIs
  have hsl : s.TypeIs (.ref sl) "slice" := by
    obtain ⟨o, h1, h2, h3⟩ := hs
    exact ⟨_, h1, h2⟩
  unfold getItem
  refine wpAny_holding (wpAny_bind (wpAny_sequenceKey ht (by decide) (wpAny_bind (wpAny_callSpecial?_slot ht slot_tuple_getitem (wpAny_call_entry slot_tuple_getitem ht entry_tuple_getitem ?_ (args_tuple_getitem _ _))))))
  unfold Builtin.«tuple.__getitem__»
  refine wpAny_bind ?_
  refine wpAny_pure ?_
  refine wpAny_bind (tupleItemsOf_ h (wpAny_bind (wpAny_typeOf hsl ?_)))
  rw [if_pos (by decide)]
  refine wpAny_bind (sliceApplied_rev hs ?_)
  dsimp only
  rw [if_neg (by simp)]
  refine wpAny_bind (wpAny_newObj_type ?_ ?_)
  · refine wpAny_pure ⟨_, rfl, ?_⟩
    rw [pick_rev]
    exact wpAny_pure q
  · rw [pick_rev]
    show xs.reverse.toArray.size ≤ sizeLine
    simpa using hl
section
variable {c : Cn} {X : Cx} {W : WX} {a : E} {pos : Pos}
/-- x[::-1] of a list or a tuple -/
theorem pe_revA {e : Expr} {te : TE} {k : Nat} {p1 p2 p3 : Pos} (he : PE X e te) : PE X (.Subscript e (.Slice none none (some (.UnaryOp .USub (.Constant (.int 1) k p1) p2)) p3) pos)
    (fun σ H Q => te σ H fun x H1 => ∃ a vs, x = .ref a ∧ ((SqT X.K H1 a vs ∧ ∀ p, H1 p = none → Q (.ref p) (upd H1 p (.tup vs.reverse))) ∨ (SqL X.K H1 a vs ∧ ∀ p, H1 p = none → Q (.ref p) (upd H1 p (.lst vs.reverse))))) := by
  refine ⟨fun pins s σ H Q I h => ?_⟩
  refine Subscript_ (thn (he.run pins s σ H _ I h) ?_)
  rintro v s1 ⟨x, H1, I1, r1, a, vs, rfl, hx⟩
  cases r1
  refine wpAny_Slice ?_
  rw [evalPart_none]
  refine wpAny_pure ?_
  refine wpAny_pure ?_
  refine thn ((po_some (pe_un un_neg pe_int)).run pins s1 σ H1 (fun o H2 => o = some (-1) ∧ H2 = H1) I1 ⟨1, rfl, -1, rfl, rfl, rfl⟩) ?_
  rintro u s2 ⟨o, H2, I2, pu, rfl, rfl⟩
  cases pu
  rename_i tk
  have I3 := I2.kept (h' := s2.heap.push { cls := .type "slice", data := .fields #[Value.none, Value.none, .int (-1) tk] }) (t' := s2.toks) fun b u hb => Heap.get?_push_of_some _ hb
  rcases hx with ⟨hx, q⟩ | ⟨hx, q⟩
  · obtain ⟨its, hv, ht, hl⟩ := I3.tuple hx
    have hl2 : its.length ≤ sizeLine := by rw [← hv.length]; exact hl
    refine tail_any ht.typeIs slot_tuple_getitem.lookup ?_ rfl
    refine getItem_tuple_rev ht (Heap.IsSliceOf.new _ _ _ _) hl2 ?_
    refine ⟨.ref _, _, I3.laid (o := .tup vs.reverse) (fun b u hb => Heap.get?_push_of_some _ hb) (Nat.le_refl _) ?_, rfl, q _ ?_⟩
    · exact ⟨by simpa using hl, its.reverse, hv.reverse, IsTup.new _ _⟩
    · exact I3.hok.fresh (Nat.le_refl _)
  · obtain ⟨its, hv, ht, hl⟩ := I3.list hx
    have hl2 : its.length ≤ sizeLine := by rw [← hv.length]; exact hl
    refine tail_any ht.isList.typeIs slot_list_getitem.lookup ?_ rfl
    refine wpAny_getItem_list_slice ht.isList (Heap.IsSliceOf.new _ _ _ _) .none .none (.int _ _) (by decide) ?_ (by simpa using hl2)
    rw [PySem.W.krv_pick]
    refine ⟨.ref _, _, I3.laid (o := .lst vs.reverse) (fun b u hb => Heap.get?_push_of_some _ hb) (Nat.le_refl _) ?_, rfl, q _ ?_⟩
    · exact ⟨by simpa using hl, its.reverse, _, hv.reverse, Heap.get?_push_size _ (by rfl)⟩
    · exact I3.hok.fresh (Nat.le_refl _)
theorem e_rev {x y : Expr} (hK : X.K = c.k.K) (ha : PE X x (tX c W a)) (hy : revSl y = true) : PE X (.Subscript x y pos) (tE c W (.op .rev [a])) := by
  unfold revSl at hy
  split at hy
  · refine PE.imp (pe_revA ha) ?_
    rintro σ H Q ⟨B, Z, e, T, K, R, wd, we, q, ex⟩
    refine opRead1 wd we ex fun v1 Z1 H1 e1 d w1 r1 k1 => ?_
    cases d <;> simp only [opW, revW] at k1
    · obtain ⟨a1, us, rfl, hH, rd⟩ := r1.lst'
      exact ⟨a1, us, rfl, .inr ⟨.of hH, fun p' hp => q _ _ _ _ _ (w1.pLst rd.rev hp) k1⟩⟩
    · obtain ⟨a1, us, rfl, hH, rd⟩ := r1.tup'
      exact ⟨a1, us, rfl, .inl ⟨.of hH, fun p' hp => q _ _ _ _ _ (w1.pTup rd.rev hp) k1⟩⟩
  · cases hy
end
end DS
/-! DS11: the small language against the text: expressions. -/
namespace DS
open PySem PySem.Spec PyProof.Rows L2
structure Mx where
  N : List Str
  sc : Scope
  fb : Str → Bool
  G : List Gi
  io : List Nat
  cs : List (Str × Option Str × D)
/-- the same plain value -/
def scEq : D → D → Bool
  | .non, .non => true
  | .bl a, .bl b => a == b
  | .int a, .int b => decide (a = b)
  | .str a, .str b => decide (a = b)
  | _, _ => false
theorem scEq_of {a b : D} (h : scEq a b = true) : a = b := by
  cases a <;> cases b <;> simp [scEq] at h <;> first | rfl | (subst h; rfl)
def cstB (m : Mx) (y : Str) (f : Option Str) (d : D) : Bool := glB m.sc y && !(y == ("__debug__" : Str)) && m.cs.any fun q => decide (q.1 = y) && decide (q.2.1 = f) && scEq q.2.2 d
def nmB (m : Mx) (i : Nat) (y : Str) : Bool := decide (m.N[i]? = some y) && visB m.sc y && !(y == ("__debug__" : Str)) && !(y == ("__classdict__" : Str))
def opC : Op → Option Operator
  | .add => some .Add | .sub => some .Sub | .mul => some .Mult | .fdiv => some .FloorDiv | .mod => some .Mod | .pow => some .Pow
  | _ => none
def opEqB : Operator → Operator → Bool
  | .Add, .Add | .Sub, .Sub | .Mult, .Mult | .FloorDiv, .FloorDiv | .Mod, .Mod | .Pow, .Pow => true
  | _, _ => false
def cmC : Op → Option CmpOp
  | .eq => some .Eq | .ne => some .NotEq | .lt => some .Lt | .le => some .LtE | .gt => some .Gt | .ge => some .GtE | .inn => some .In | .nin => some .NotIn
  | _ => none
def cmEqB : CmpOp → CmpOp → Bool
  | .Eq, .Eq | .NotEq, .NotEq | .Lt, .Lt | .LtE, .LtE | .Gt, .Gt | .GtE, .GtE | .In, .In | .NotIn, .NotIn => true
  | _, _ => false
def isNoneE : Expr → Bool
  | .Constant .none _ _ => true
  | _ => false
/-- the built-ins by name -/
def bltN : Op → Option Str
  | .len => some "len" | .max2 => some "max" | .min2 => some "min" | .abs => some "abs" | .tupleOf => some "tuple"
  | .sum => some "sum" | .maxl => some "max" | .minl => some "min" | .listOf => some "list" | .dictOf => some "dict" | .sorted => some "sorted" | .intOf => some "int" | .strOf => some "str" | .allOf => some "all" | .anyOf => some "any"
  | _ => none
/-- the methods by name -/
def mthN : Op → Option Str
  | .join => some "join" | .upper => some "upper" | .get1 => some "get" | .get2 => some "get"
  | _ => none
mutual
def mE : Nat → Mx → E → Expr → Bool
  | 0, _, _, _ => false
  | n + 1, m, e, x => match x with
    | .BoolOp op xs p => match xs with
      | [y] => mE n m e y
      | y :: z :: r => match op, e with
        | .And, .andE a b => mE n m a y && mE n m b (.BoolOp .And (z :: r) p)
        | .Or, .orE a b => mE n m a y && mE n m b (.BoolOp .Or (z :: r) p)
        | _, _ => false
      | [] => false
    | .Name y _ => match e with
      | .var i => nmB m i y
      | .mov i => nmB m i y
      | .con d => cstB m y none d
      | _ => false
    | .Attribute (.Name y _) f _ => match e with
      | .con d => cstB m y (some f) d
      | _ => false
    | .Constant k _ _ => match e with
      | .con d => conB d k
      | _ => false
    | .IfExp xt xa xb _ => match e with
      | .ife t a b => mT n m t xt && mE n m a xa && mE n m b xb
      | _ => false
    | .UnaryOp uo xa _ => match uo, e with
      | .Not, .notE a => (leafE a || sameE a) && mE n m a xa
      | .USub, .op .neg [a] => mX n m a xa
      | _, _ => false
    | .BinOp xa bo xb _ => match e with
      | .op o [a, b] => (match opC o with | some q => opEqB q bo | none => false) && mX n m a xa && mX n m b xb
      | _ => false
    | .Compare xa cs xs _ => match cs, xs, e with
      | [co], [xb], .op o [a, b] => (match cmC o with | some q => cmEqB q co | none => false) && !behindInMarks co xb && mX n m a xa && mX n m b xb
      | [.Is], [xb], .op .isN [a] => isNoneE xb && mX n m a xa
      | [.IsNot], [xb], .op .notN [a] => isNoneE xb && mX n m a xa
      | [c1, c2], [xb, xc], .chain o1 o2 a b d => (match cmC o1 with | some q => cmEqB q c1 | none => false) && (match cmC o2 with | some q => cmEqB q c2 | none => false) && !lastMarks [c1, c2] [xb, xc] && mE n m a xa && mE n m b xb && mE n m d xc
      | _, _, _ => false
    | .Tuple xs _ _ => match e with
      | .op .tup as => as.all (fun a => !ioB a) && mEs n m as xs
      | _ => false
    | .List xs _ => match e with
      | .op .lst as => as.all (fun a => !ioB a) && mEs n m as xs
      | _ => false
    | .Subscript xa xb _ => match e with
      | .op .idx [a, b] => noSlice xb && mX n m a xa && mX n m b xb
      | .op .rev [a] => revSl xb && mX n m a xa
      | .slc a lo hi => (match xb with
        | .Slice l u none _ => mX n m a xa && mO n m lo l && mO n m hi u
        | _ => false)
      | _ => false
    | .Call xf xs kw cp => match xf with
      | .Name y _ => match e with
        | .call f as => (match m.G[f]? with
          | some gi => decide (gi.name = y) && glB m.sc y && !(y == ("__debug__" : Str)) && mAs n m (as.take xs.length) xs && mKs n m (as.drop xs.length) kw && decide (kw.map (·.arg) = gi.ks.map some) && decide (posT 0 (as.map ioB) = gi.io) && decide (as.length = gi.np)
          | none => false)
        | .op (.isi T) [a] => kw.isEmpty && decide (y = "isinstance") && glB m.sc y && (match xs with
          | [x, .Name z q] => (match T with
            | [t] => mX n m a x && noStar x && tyNameB m.sc t (.Name z q)
            | _ => false)
          | [x, .Tuple zs _ _] => mX n m a x && noStar x && tyNamesB m.sc T zs && decide (T.length ≤ 10)
          | _ => false)
        | .op .itemsL [a] => kw.isEmpty && decide (y = "list") && glB m.sc y && (match xs with
          | [.Call (.Attribute x f ap) [] [] cp2] => decide (f = "items") && baseB x && lineB ap cp2 && mX n m a x
          | _ => false)
        | .op .valsL [a] => kw.isEmpty && decide (y = "list") && glB m.sc y && (match xs with
          | [.Call (.Attribute x f ap) [] [] cp2] => decide (f = "values") && baseB x && lineB ap cp2 && mX n m a x
          | _ => false)
        | .op o as => kw.isEmpty && decide (bltN o = some y) && glB m.sc y && !as.isEmpty && mAs n m as xs
        | _ => false
      | .Attribute x f ap => match e with
        | .mth o a as => kw.isEmpty && decide (mthN o = some f) && baseB x && lineB ap cp && decide (xs.length < 20) && mX n m a x && mAs n m as xs
        | _ => false
      | _ => false
    | .Dict ks vs _ => match e with
      | .op .dct [] => ks.isEmpty && vs.isEmpty
      | _ => false
    | .ListComp elt gens scope _ => match gens, e with
      | [⟨tg, it, ifs, 0⟩], .comp k es t cs b sl =>
        let own := sl.map fun i => (m.N.getD i "", i)
        let m' : Mx := { m with sc := relS scope m.sc, fb := cellB scope }
        decide sl.Nodup && blkC m.N m.sc scope own && sl.all (fun i => decide (i ∉ m.io)) && t.ns.all (fun i => decide (i ∈ sl)) && noSetE it && mI n m k es tg it && mG n m' t tg && mCs n m' cs ifs && mE n m' b elt
      | _, _ => false
    | _ => false
def mT : Nat → Mx → E → Expr → Bool
  | 0, _, _, _ => false
  | n + 1, m, e, x => match x with
    | .BoolOp op xs _ => mL n m op e xs
    | .UnaryOp .Not xa _ => match e with
      | .notE a => mT n m a xa
      | _ => false
    | .IfExp xt xa xb _ => match e with
      | .ife t a b => mT n m t xt && mT n m a xa && mT n m b xb
      | _ => false
    | .Compare xa cs xs _ => match cs, xs, e with
      | [co], [xb], .op o [a, b] => (match cmC o with | some q => cmEqB q co | none => false) && !behindInMarks co xb && mX n m a xa && mX n m b xb
      | [.Is], [xb], .op .isN [a] => isNoneE xb && mX n m a xa
      | [.IsNot], [xb], .op .notN [a] => isNoneE xb && mX n m a xa
      | [c1, c2], [xb, xc], .chain o1 o2 a b d => (match cmC o1 with | some q => cmEqB q c1 | none => false) && (match cmC o2 with | some q => cmEqB q c2 | none => false) && !lastMarks [c1, c2] [xb, xc] && mE n m a xa && mE n m b xb && mE n m d xc
      | _, _, _ => false
    | .Name y _ => match e with
      | .io i => nmB m i y
      | .var i => nmB m i y
      | .mov i => nmB m i y
      | _ => false
    | x => leafE e && plainTest x && mE n m e x
def mL : Nat → Mx → BoolOp → E → List Expr → Bool
  | 0, _, _, _, _ => false
  | n + 1, m, op, e, xs => match xs with
    | [] => false
    | [y] => mT n m e y
    | y :: z :: r => match op, e with
      | .And, .andE a b => mT n m a y && mL n m .And b (z :: r)
      | .Or, .orE a b => mT n m a y && mL n m .Or b (z :: r)
      | _, _ => false
def mX : Nat → Mx → E → Expr → Bool
  | 0, _, _, _ => false
  | n + 1, m, e, x => match e, x with
    | .io i, .Name y _ => nmB m i y
    | .io _, _ => false
    | e, x => mE n m e x
def mEs : Nat → Mx → List E → List Expr → Bool
  | 0, _, _, _ => false
  | n + 1, m, es, xs => match es, xs with
    | [], [] => true
    | e :: es, x :: xs => noStar x && mE n m e x && mEs n m es xs
    | _, _ => false
def mAs : Nat → Mx → List E → List Expr → Bool
  | 0, _, _, _ => false
  | n + 1, m, es, xs => match es, xs with
    | [], [] => true
    | e :: es, x :: xs => mAs n m es xs && (match e, x with
      | .io i, .Name y _ => nmB m i y
      | .io _, _ => false
      | e, x => noStar x && mE n m e x)
    | _, _ => false
def mKs : Nat → Mx → List E → List Keyword → Bool
  | 0, _, _, _ => false
  | n + 1, m, es, kws => match es, kws with
    | [], [] => true
    | e :: es, kw :: kws => mKs n m es kws && !ioB e && mE n m e kw.value
    | _, _ => false
def mO : Nat → Mx → List E → Option Expr → Bool
  | 0, _, _, _ => false
  | n + 1, m, es, x => match es, x with
    | [], none => true
    | [a], some x => mE n m a x
    | _, _ => false
def mCs : Nat → Mx → List E → List Expr → Bool
  | 0, _, _, _ => false
  | n + 1, m, es, xs => match es, xs with
    | [], [] => true
    | [a], [x] => mT n m a x
    | _, _ => false
def mI : Nat → Mx → Src → List E → Expr → Expr → Bool
  | 0, _, _, _, _, _ => false
  | n + 1, m, k, es, tg, it => match k, es with
    | .seq, [a] => mE n m a it
    | .rng, es => (match it with
      | .Call (.Name y _) xs [] _ => decide (y = "range") && glB m.sc y && mEs n m es xs && decide (0 < es.length ∧ es.length < 3)
      | _ => false)
    | .enm, [a] => (match tg, it with
      | .Tuple _ _ _, .Call (.Name y _) [x] [] _ => decide (y = "enumerate") && glB m.sc y && noStar x && mE n m a x
      | _, _ => false)
    | .itm, [a] => (match tg, it with
      | .Tuple _ _ _, .Call (.Attribute x f ap) [] [] cp => decide (f = "items") && baseB x && lineB ap cp && mE n m a x
      | _, _ => false)
    | .vals, [a] => (match it with
      | .Call (.Attribute x f ap) [] [] cp => decide (f = "values") && baseB x && lineB ap cp && mE n m a x
      | _ => false)
    | _, _ => false
def mG : Nat → Mx → Tg → Expr → Bool
  | 0, _, _, _ => false
  | n + 1, m, t, x => match t, x with
    | .n i, .Name y _ => decide (m.N[i]? = some y) && stoB m.sc m.fb y && decide (i ∉ m.io)
    | .t ts, .Tuple xs _ _ => mGs n m ts xs && xs.all tgB && decide (xs.length = ts.length)
    | _, _ => false
def mGs : Nat → Mx → List Tg → List Expr → Bool
  | 0, _, _, _ => false
  | n + 1, m, ts, xs => match ts, xs with
    | [], [] => true
    | t :: ts, x :: xs => tgB x && mG n m t x && mGs n m ts xs
    | _, _ => false
end
end DS
/-! DS12: the matcher is sound: the leaves. -/
namespace DS
open PySem PySem.Spec PyProof.Rows L2
structure FitM (c : Cn) (lv : Nat) (m : Mx) (X : Cx) (W : WX) : Prop where
  g : Fit c lv m.sc m.fb m.N X W
  io : c.io = m.io
  G : c.G = m.G
  cs : c.cs = m.cs
section
variable {c : Cn} {lv : Nat} {m : Mx} {X : Cx} {W : WX} {a b d : E} {as : List E} {x y z : Expr} {xs : List Expr} {p pos apos cpos : Pos}
theorem nm_of {i : Nat} {y : Str} (h : nmB m i y = true) : m.N[i]? = some y ∧ visB m.sc y = true ∧ (y == ("__debug__" : Str)) = false ∧ (y == ("__classdict__" : Str)) = false := by
  unfold nmB at h
  simp only [Bool.and_eq_true, decide_eq_true_eq, Bool.not_eq_true'] at h
  exact ⟨h.1.1.1, h.1.1.2, h.1.2, h.2⟩
theorem m_bin {o : Op} {bo : Operator} (f : FitM c lv m X W) (h : (match opC o with | some q => opEqB q bo | none => false) = true) (ha : PE X x (tX c W a)) (hb : PE X y (tX c W b)) : PE X (.BinOp x bo y pos) (tE c W (.op o [a, b])) := by
  cases o <;> simp only [opC, Bool.false_eq_true] at h <;> cases bo <;> simp only [opEqB, Bool.false_eq_true] at h
  · exact e_op2 (pe_op op_rrAdd ha hb) (w_add f.g.hK)
  · exact e_op2 (pe_op op_sub ha hb) w_sub
  · exact e_op2 (pe_op op_rrMul ha hb) w_mul
  · exact e_op2 (pe_op op_fdivW ha hb) w_fdiv
  · exact e_op2 (pe_op op_mod ha hb) w_mod
  · exact e_op2 (pe_op op_powB ha hb) w_pow
/-- a comparison's rule -/
theorem m_cmp {o : Op} {co : CmpOp} (f : FitM c lv m X W) (h : (match cmC o with | some q => cmEqB q co | none => false) = true) : ∃ rr, OpR X (compareOp co) rr ∧ OpW2 c o rr := by
  cases o <;> simp only [cmC, Bool.false_eq_true] at h <;> cases co <;> simp only [cmEqB, Bool.false_eq_true] at h
  · exact ⟨_, op_rrEq f.g, w_eqB fun _ _ => rfl⟩
  · exact ⟨_, op_rrNe f.g, w_eqB fun _ _ => rfl⟩
  · exact ⟨_, op_rLt, w_cmp fun _ _ => rfl⟩
  · exact ⟨_, op_rLe, w_cmp fun _ _ => rfl⟩
  · exact ⟨_, op_rGt, w_cmp fun _ _ => rfl⟩
  · exact ⟨_, op_rGe, w_cmp fun _ _ => rfl⟩
  · exact ⟨_, op_rrIn f.g, w_inB fun _ _ => rfl⟩
  · exact ⟨_, op_rrNin f.g, w_inB fun _ _ => rfl⟩
theorem cmp_bl {o : Op} {co : CmpOp} (h : (match cmC o with | some q => cmEqB q co | none => false) = true) (ds : List D) (K : O → Prop) (k : opW o ds K) : opW o ds fun r => K r ∧ ∃ k, r = .pu (.bl k) := by
  cases o <;> simp only [cmC, Bool.false_eq_true] at h
  all_goals
    simp only [opW] at k ⊢
    rcases ds with _ | ⟨d1, _ | ⟨d2, _ | ⟨d3, ds⟩⟩⟩
    · exact k.elim
    · first | exact k.elim | (cases d1 <;> exact k.elim)
    · first
        | exact ⟨k.1, k.2, _, rfl⟩
        | (cases d1 <;> cases d2 <;> first | exact k.elim | exact ⟨k, _, rfl⟩)
        | (cases d2 <;> first | exact k.elim | exact ⟨k.1, k.2, _, rfl⟩ | (obtain ⟨kk, e1, e2, e3⟩ := k; exact ⟨kk, e1, e2, e3, _, rfl⟩) | (cases d1 <;> first | exact k.elim | exact ⟨k, _, rfl⟩))
    · first | exact k.elim | (cases d1 <;> first | exact k.elim | (cases d2 <;> exact k.elim))
theorem isNone_of {x : Expr} (h : isNoneE x = true) : ∃ j p, x = .Constant .none j p := by
  unfold isNoneE at h
  split at h
  · exact ⟨_, _, rfl⟩
  · cases h
theorem blt_of (f : FitM c lv m X W) {y : Str} (h : y ∈ (["len", "sum", "max", "min", "abs", "list", "tuple", "dict", "sorted", "int", "str", "repr", "all", "any", "isinstance", "range", "enumerate", "zip", "reversed", "bool"] : List Str)) : X.mg y = none := f.g.blt y h
theorem m_blt {o : Op} {y : Str} {xs : List Expr} (f : FitM c lv m X W) (h : bltN o = some y) (hg : glB m.sc y = true) (ha : PA X (x :: xs) (tAs c W as)) (hs : (x :: xs).all noStar = true) : PE X (.Call (.Name y p) (x :: xs) [] pos) (tE c W (.op o as)) := by
  have hs2 : noStar x = true ∧ xs.all noStar = true := by simpa only [List.all_cons, Bool.and_eq_true] using hs
  cases o <;> simp only [bltN, Option.some.injEq, reduceCtorEq] at h <;> subst h
  · exact e_opn (pe_callB (call_lenX f.g) (gl_of f.g hg) (blt_of f (by decide)) rfl ha (by decide) (by decide) (star_of hs2.1 _) (starPlain _ _ hs2.2)) (w_len)
  · exact e_opn (pe_callB (cr_sum f.g.calm) (gl_of f.g hg) (blt_of f (by decide)) rfl ha (by decide) (by decide) (star_of hs2.1 _) (starPlain _ _ hs2.2)) (w_sum f.g.hK)
  · exact e_opn (pe_callB (call_max2 f.g.calm) (gl_of f.g hg) (blt_of f (by decide)) rfl ha (by decide) (by decide) (star_of hs2.1 _) (starPlain _ _ hs2.2)) (w_max2)
  · exact e_opn (pe_callB (call_min2 f.g.calm) (gl_of f.g hg) (blt_of f (by decide)) rfl ha (by decide) (by decide) (star_of hs2.1 _) (starPlain _ _ hs2.2)) (w_min2)
  · exact e_opn (pe_callB (cr_max f.g.calm) (gl_of f.g hg) (blt_of f (by decide)) rfl ha (by decide) (by decide) (star_of hs2.1 _) (starPlain _ _ hs2.2)) (w_maxl f.g.hK)
  · exact e_opn (pe_callB (cr_min f.g.calm) (gl_of f.g hg) (blt_of f (by decide)) rfl ha (by decide) (by decide) (star_of hs2.1 _) (starPlain _ _ hs2.2)) (w_minl f.g.hK)
  · exact e_opn (pe_callB (call_abs) (gl_of f.g hg) (blt_of f (by decide)) rfl ha (by decide) (by decide) (star_of hs2.1 _) (starPlain _ _ hs2.2)) (w_abs)
  · exact e_opn (pe_callTy (call_listX f.g) (gl_of f.g hg) (blt_of f (by decide)) rfl ha (by decide) (by decide) (star_of hs2.1 _) (starPlain _ _ hs2.2)) (w_listOf)
  · exact e_opn (pe_callTy (call_tuple_of) (gl_of f.g hg) (blt_of f (by decide)) rfl ha (by decide) (by decide) (star_of hs2.1 _) (starPlain _ _ hs2.2)) (w_tupleOf)
  · exact e_opn (pe_callTy (call_dictX f.g) (gl_of f.g hg) (blt_of f (by decide)) rfl ha (by decide) (by decide) (star_of hs2.1 _) (starPlain _ _ hs2.2)) (w_dictOf)
  · exact e_opn (pe_callB (call_sortedX) (gl_of f.g hg) (blt_of f (by decide)) rfl ha (by decide) (by decide) (star_of hs2.1 _) (starPlain _ _ hs2.2)) (w_sorted)
  · exact e_opn (pe_callTy (call_intX) (gl_of f.g hg) (blt_of f (by decide)) rfl ha (by decide) (by decide) (star_of hs2.1 _) (starPlain _ _ hs2.2)) (w_intOf)
  · exact e_opn (pe_callTy (call_strX) (gl_of f.g hg) (blt_of f (by decide)) rfl ha (by decide) (by decide) (star_of hs2.1 _) (starPlain _ _ hs2.2)) (w_strOf)
  · exact e_opn (pe_callB (cr_all f.g.calm) (gl_of f.g hg) (blt_of f (by decide)) rfl ha (by decide) (by decide) (star_of hs2.1 _) (starPlain _ _ hs2.2)) (w_all f.g.hK)
  · exact e_opn (pe_callB (cr_any f.g.calm) (gl_of f.g hg) (blt_of f (by decide)) rfl ha (by decide) (by decide) (star_of hs2.1 _) (starPlain _ _ hs2.2)) (w_any f.g.hK)
theorem m_mth {o : Op} {y : Str} {xs : List Expr} (f : FitM c lv m X W) (h : mthN o = some y) (ho : PE X x (tX c W a)) (ha : PA X xs (tAs c W as)) (hs : xs.all noStar = true) (hl : as.length = xs.length) (h20 : xs.length < 20) (hb : baseB x = true) (hline : lineB apos cpos = true) : PE X (.Call (.Attribute x y apos) xs [] cpos) (tE c W (.mth o a as)) := by
  cases o <;> simp only [mthN, Option.some.injEq, reduceCtorEq] at h <;> subst h
  · exact e_mth f.g F.plainAttrs_str F.slot_str_join F.type_str_join (by rw [← f.g.hK]; exact mt_join) w_join (by decide) ho ha hs hl h20 hb hline
  · exact e_mth f.g F.plainAttrs_str F.slot_str_upper F.type_str_upper mt_upper w_upper (by decide) ho ha hs hl h20 hb hline
  · exact e_mth f.g F.plainAttrs_dict F.slot_dict_get F.type_dict_get (mt_getX f.g) w_get1 (by decide) ho ha hs hl h20 hb hline
  · exact e_mth f.g F.plainAttrs_dict F.slot_dict_get F.type_dict_get (mt_getX f.g) w_get2 (by decide) ho ha hs hl h20 hb hline
/-! what is walked -/
theorem i_seq {tg : Expr} (f : FitM c lv m X W) (ha : PE X x (tE c W a)) : PI X tg x (tI c W .seq [a]) := by
  refine PI.imp (pi_val ha ((it_list (X := X)).or ((it_tup (X := X)).or ((it_str (X := X)).or (it_dict (X := X)))))) ?_
  rintro σ H R ⟨B, Z, e, T, K, R', wd, we, q, ex⟩
  unfold wEs wEs at we
  refine ⟨B, Z, e, T, _, R', wd, we, fun v1 Z1 H1 o1 e1 w1 k1 => ?_, ex⟩
  obtain ⟨Z2, kp, w2, r⟩ := w1.frz
  simp only [List.map_cons, List.map_nil] at k1
  generalize o1.fz = d at r k1
  cases d with
  | lst xs => obtain ⟨q1, vs, rfl, h1, hw⟩ := walk_lst (c := c) (K := X.K) r; exact .inl ⟨q1, vs, rfl, h1, q _ _ _ _ _ hw w2 k1⟩
  | tup xs => obtain ⟨q1, vs, rfl, h1, hw⟩ := walk_tup (c := c) (K := X.K) r; exact .inr (.inl ⟨q1, vs, rfl, h1, q _ _ _ _ _ hw w2 k1⟩)
  | str z => exact .inr (.inr (.inl ⟨z, r.str', q _ _ _ _ _ walk_str w2 k1⟩))
  | dct kvs => obtain ⟨q1, o, es, ep, rfl, hz, dk, rk⟩ := dk_of (c := c) r; exact .inr (.inr (.inr ⟨q1, o, es, ep, rfl, dk, q _ _ _ _ _ (walk_q hz dk rk) w2 k1⟩))
  | _ => exact k1.elim
theorem i_rng {tg : Expr} {as : List E} {xs : List Expr} (f : FitM c lv m X W) (hg : glB m.sc "range" = true) (ha : PA X xs (tEs c W as)) (hs : xs.all noStar = true) (hl : as.length = xs.length) (h1 : 0 < as.length ∧ as.length < 3) : PI X tg (.Call (.Name "range" p) xs [] pos) (tI c W .rng as) := by
  have hm : X.mg "range" = none := blt_of f (by decide)
  have hG := gl_of f.g hg
  rcases xs with _ | ⟨x, _ | ⟨y, _ | ⟨z, xs⟩⟩⟩
  · simp only [List.length_nil] at hl; omega
  · simp only [List.all_cons, List.all_nil, Bool.and_true] at hs
    refine PI.imp (pi_range1 hG hm ha (by rw [star_of hs]; rfl)) ?_
    rintro σ H R ⟨B, Z, e, T, K, R', wd, we, q, ex⟩
    refine ⟨B, Z, e, T, _, R', wd, we, fun os vs Z1 H1 e1 hl1 hla w1 k1 => ?_, ex⟩
    obtain ⟨Z2, kp, w2, r⟩ := w1.frzs hl1
    generalize os.map O.fz = ds at r k1
    rcases ds with _ | ⟨d1, _ | ⟨d2, _ | ⟨d3, ds⟩⟩⟩
    · exact k1.elim
    · obtain ⟨v, rfl, rv⟩ := r.one
      cases d1 <;> first | exact k1.elim | skip
      obtain ⟨h2, k1⟩ := k1
      exact ⟨_, by rw [rv.int'], h2.1, h2.2, q _ _ _ _ _ walk_rng w2 k1⟩
    · simp only [List.length_cons, List.length_nil] at hl; have h3 := r.len; simp at h3; have h4 : os.length = 2 := by rw [hl1, h3]
      omega
    · cases d1 <;> first | exact k1.elim | (cases d2 <;> exact k1.elim)
  · simp only [List.all_cons, List.all_nil, Bool.and_true, Bool.and_eq_true] at hs
    refine PI.imp (pi_range2 hG hm ha (by rw [star_of hs.1, star_of hs.2]; rfl) (by rw [star_of hs.2]; rfl)) ?_
    rintro σ H R ⟨B, Z, e, T, K, R', wd, we, q, ex⟩
    refine ⟨B, Z, e, T, _, R', wd, we, fun os vs Z1 H1 e1 hl1 hla w1 k1 => ?_, ex⟩
    obtain ⟨Z2, kp, w2, r⟩ := w1.frzs hl1
    generalize os.map O.fz = ds at r k1
    rcases ds with _ | ⟨d1, _ | ⟨d2, _ | ⟨d3, ds⟩⟩⟩
    · exact k1.elim
    · simp only [List.length_cons, List.length_nil] at hl; have h3 := r.len; simp at h3; have h4 : os.length = 1 := by rw [hl1, h3]
      omega
    · obtain ⟨v, u, rfl, rv, ru⟩ := r.two
      cases d1 <;> first | exact k1.elim | skip
      cases d2 <;> first | exact k1.elim | skip
      obtain ⟨h2, k1⟩ := k1
      exact ⟨_, _, by rw [rv.int', ru.int'], h2, q _ _ _ _ _ walk_rng w2 k1⟩
    · cases d1 <;> first | exact k1.elim | (cases d2 <;> exact k1.elim)
  · simp only [List.length_cons] at hl; omega
end
end DS
/-! DS13: more that is walked. -/
namespace DS
open PySem PySem.Spec PyProof.Rows L2
section
variable {c : Cn} {lv : Nat} {m : Mx} {X : Cx} {W : WX} {a b d : E} {as : List E} {x y z : Expr} {xs : List Expr} {p pos apos cpos tpos : Pos} {elts : List Expr} {kk : Nat}
theorem i_itm (f : FitM c lv m X W) (ha : PE X x (tE c W a)) (hb : baseB x = true) (hl : lineB apos cpos = true) : PI X (.Tuple elts kk tpos) (.Call (.Attribute x "items" apos) [] [] cpos) (tI c W .itm [a]) := by
  refine PI.imp (pi_itemsR ha (base_of hb _ _) hl) ?_
  rintro σ H R ⟨B, Z, e, T, K, R', wd, we, q, ex⟩
  unfold wEs wEs at we
  refine ⟨B, Z, e, T, _, R', wd, we, fun v1 Z1 H1 o1 e1 w1 k1 => ?_, ex⟩
  obtain ⟨Z2, kp, w2, r⟩ := w1.frz
  simp only [List.map_cons, List.map_nil] at k1
  generalize o1.fz = d at r k1
  cases d with
  | dct kvs => obtain ⟨q1, o, es, ep, rfl, hz, dk, rk⟩ := dk_of (c := c) r; exact ⟨q1, o, es, ep, rfl, dk, q _ _ _ _ _ (walk_p hz dk rk) w2 k1⟩
  | _ => exact k1.elim
theorem i_vals {tg : Expr} (f : FitM c lv m X W) (ha : PE X x (tE c W a)) (hb : baseB x = true) (hl : lineB apos cpos = true) : PI X tg (.Call (.Attribute x "values" apos) [] [] cpos) (tI c W .vals [a]) := by
  refine PI.imp (pi_valuesR ha (base_of hb _ _) hl) ?_
  rintro σ H R ⟨B, Z, e, T, K, R', wd, we, q, ex⟩
  unfold wEs wEs at we
  refine ⟨B, Z, e, T, _, R', wd, we, fun v1 Z1 H1 o1 e1 w1 k1 => ?_, ex⟩
  obtain ⟨Z2, kp, w2, r⟩ := w1.frz
  simp only [List.map_cons, List.map_nil] at k1
  generalize o1.fz = d at r k1
  cases d with
  | dct kvs => obtain ⟨q1, o, es, ep, rfl, hz, dk, rk⟩ := dk_of (c := c) r; exact ⟨q1, o, es, ep, rfl, dk, q _ _ _ _ _ (walk_w hz dk rk) w2 k1⟩
  | _ => exact k1.elim
theorem walk_enum {Z : Addr → Prop} {H : Hp} {xs : List D} {v : V} {K : PySem.W.Frag} (r : RD c.k Z H (.lst xs) v) : ∃ a vs, v = .ref a ∧ SqL K H a vs ∧ Walks c Z H (Ite K a) (xs.zipIdx.map fun p => .tup [.int (p.2 : Int), p.1]) := by
  obtain ⟨a, vs, rfl, hz, hH, rd⟩ := r.lst'
  refine ⟨a, vs, rfl, .of hH, ?_⟩
  intro B Z2 H2 σ e T i kp w
  have h : SqL K H2 a vs := .of ((kp.h a hz).trans hH)
  have hl := rd.len
  simp only [List.length_map, List.length_zipIdx]
  refine ⟨fun hi => ?_, fun hi => ⟨vs, h, by rw [hl]; exact hi⟩, fun hi y H' hy => ?_⟩
  · have : i < vs.length := by rw [hl]; exact hi
    exact ⟨vs, vs[i], h, List.getElem?_eq_getElem this⟩
  · obtain ⟨Tp, x, rfl, hn, rfl, hy⟩ := hy
    have hx := hy vs h
    obtain ⟨u, hu, ru⟩ := (rd.keep kp).get (List.getElem?_eq_getElem hi)
    rw [hx] at hu
    cases hu
    refine ⟨.tup [.int (i : Nat), xs[i]], by simp [List.getElem?_map, List.getElem?_zipIdx, List.getElem?_eq_getElem hi], kp_upd w.zs hn, w.pTup (ds := [.int (i : Nat), xs[i]]) ?_ hn⟩
    simp only [RDs]
    exact ⟨_, _, rfl, by simp only [RD], _, _, rfl, ru, rfl⟩
theorem i_enm (f : FitM c lv m X W) (hg : glB m.sc "enumerate" = true) (ha : PE X x (tE c W a)) (hs : noStar x = true) : PI X (.Tuple elts kk tpos) (.Call (.Name "enumerate" p) [x] [] pos) (tI c W .enm [a]) := by
  have hm : X.mg "enumerate" = none := blt_of f (by decide)
  refine PI.imp (pi_enum (gl_of f.g hg) hm (a_cons ha a_nil hs) (by rw [star_of hs]; rfl)) ?_
  rintro σ H R ⟨B, Z, e, T, K, R', wd, we, q, ex⟩
  refine ⟨B, Z, e, T, _, R', wd, we, fun os vs Z1 H1 e1 hl hla w1 k1 => ?_, ex⟩
  obtain ⟨Z2, kp, w2, r⟩ := w1.frzs hl
  generalize os.map O.fz = ds at r k1
  rcases ds with _ | ⟨d1, _ | ⟨d2, ds⟩⟩
  · exact k1.elim
  · obtain ⟨v, rfl, rv⟩ := r.one
    cases d1 with
    | lst xs => obtain ⟨q1, us, rfl, h1, hw⟩ := walk_enum (c := c) (K := X.K) rv; exact ⟨q1, us, rfl, h1, q _ _ _ _ _ hw w2 k1⟩
    | _ => exact k1.elim
  · cases d1 <;> exact k1.elim
/-- a test's reading as a value's -/
theorem tT_tE {e : E} (hl : ∀ ev K R, wE c.Γ true e ev K R = wE c.Γ false e ev K R) {σ : Sl} {H : Hp} {Q : Bool → Hp → Prop} (h : tT c W e σ H Q) : tE c W e σ H fun x H' => ∃ k, x = .bl k ∧ Q k H' := by
  obtain ⟨B, Z, ev, T, K, R, wd, we, q, ex⟩ := h
  unfold wT at we
  rw [hl] at we
  refine ⟨B, Z, ev, T, _, R, wd, we, fun v1 Z1 H1 o1 e1 w1 k1 => ?_, ex⟩
  obtain ⟨k, rfl, kk⟩ := k1
  exact ⟨k, RD.bl' w1.head, q _ _ _ _ w1.drop kk⟩
theorem x_io {i : Nat} {y : Str} {pos : Pos} {sc : Scope} {fb : Str → Bool} {N : List Str} (g : Fit c lv sc fb N X W) (hN : N[i]? = some y) (hv : visB sc y = true) (hd : (y == ("__debug__" : Str)) = false) (hcd : (y == ("__classdict__" : Str)) = false) : PE X (.Name y pos) (tX c W (.io i)) :=
  pe_var (i := i) (by rw [g.hN]; exact hN) (by rw [g.hsc]; exact vis_of hv) hd hcd
theorem t_io {i : Nat} {y : Str} {pos : Pos} {sc : Scope} {fb : Str → Bool} {N : List Str} (g : Fit c lv sc fb N X W) (hN : N[i]? = some y) (hv : visB sc y = true) (hd : (y == ("__debug__" : Str)) = false) (hcd : (y == ("__classdict__" : Str)) = false) : PT X (.Name y pos) (tT c W (.io i)) := by
  refine PT.imp (pt_tru g.hK g.hw (x_io g hN hv hd hcd) (plainTest_of rfl _)) ?_
  rintro σ H Q ⟨B, Z, e, T, K, R, wd, we, q, ex⟩
  unfold wT wE at we
  obtain ⟨_, o, d, k, he, hb, ht, k', e2, hk⟩ := we
  cases e2
  obtain ⟨v, hs, _⟩ := wd.take he
  obtain ⟨Z2, _, r⟩ := (wd.peek he hb hs).up
  exact ⟨v, hs, k, d, Z2, r, ht, q _ _ _ _ wd hk⟩
theorem t_isN {j : Nat} {p2 : Pos} (ha : PE X x (tX c W a)) : PT X (.Compare x [.Is] [.Constant .none j p2] pos) (tT c W (.op .isN [a])) := by
  refine PT.imp (pt_cmp (pc_isN ha) rfl) ?_
  rintro σ H Q ⟨B, Z, e, T, K, R, wd, we, q, ex⟩
  unfold wT at we
  refine opRead1 wd we ex fun v1 Z1 H1 e1 d w1 r1 k1 => ?_
  simp only [opW, isNW, asK] at k1
  obtain ⟨hn, k, e, k', e', kk⟩ := k1
  cases e'
  simp only [O.fz, truD, Option.some.injEq] at e
  subst e
  refine ⟨_, rfl, ?_⟩
  rw [RV.isNon r1 hn]
  have := q _ _ _ _ w1 kk
  simpa using this
theorem t_notN {j : Nat} {p2 : Pos} (ha : PE X x (tX c W a)) : PT X (.Compare x [.IsNot] [.Constant .none j p2] pos) (tT c W (.op .notN [a])) := by
  refine PT.imp (pt_cmp (pc_notN ha) rfl) ?_
  rintro σ H Q ⟨B, Z, e, T, K, R, wd, we, q, ex⟩
  unfold wT at we
  refine opRead1 wd we ex fun v1 Z1 H1 e1 d w1 r1 k1 => ?_
  simp only [opW, isNW, asK] at k1
  obtain ⟨hn, k, e, k', e', kk⟩ := k1
  cases e'
  simp only [O.fz, truD, Option.some.injEq] at e
  subst e
  refine ⟨_, rfl, ?_⟩
  rw [RV.isNon r1 hn]
  have := q _ _ _ _ w1 kk
  simpa using this
theorem own_map {sl : List Nat} {N : List Str} : (sl.map fun i => (N.getD i "", i)).map (·.2) = sl := by
  rw [List.map_map]
  conv => rhs; rw [← List.map_id sl]
  rfl
theorem FitM.inC (f : FitM c lv m X W) {scope : Scope} {X' : Cx} (g : Fit c lv (relS scope m.sc) (cellB scope) m.N X' W0) : FitM c lv { m with sc := relS scope m.sc, fb := cellB scope } X' W0 := ⟨g, f.io, f.G, f.cs⟩
/-- the matcher is sound -/
def MOk (c : Cn) (lv : Nat) (n : Nat) : Prop :=
  (∀ {m : Mx} {X : Cx} {W : WX} {e : E} {x : Expr}, FitM c lv m X W → mE n m e x = true → PE X x (tE c W e)) ∧
  (∀ {m : Mx} {X : Cx} {W : WX} {e : E} {x : Expr}, FitM c lv m X W → mX n m e x = true → PE X x (tX c W e)) ∧
  (∀ {m : Mx} {X : Cx} {W : WX} {e : E} {x : Expr}, FitM c lv m X W → mT n m e x = true → PT X x (tT c W e)) ∧
  (∀ {m : Mx} {X : Cx} {W : WX} {e : E} {op : BoolOp} {xs : List Expr} {p : Pos}, FitM c lv m X W → mL n m op e xs = true → PW X (.BoolOp op xs p) (tT c W e)) ∧
  (∀ {m : Mx} {X : Cx} {W : WX} {es : List E} {xs : List Expr}, FitM c lv m X W → mEs n m es xs = true → PA X xs (tEs c W es) ∧ xs.all noStar = true ∧ es.length = xs.length) ∧
  (∀ {m : Mx} {X : Cx} {W : WX} {es : List E} {xs : List Expr}, FitM c lv m X W → mAs n m es xs = true → PA X xs (tAs c W es) ∧ xs.all noStar = true ∧ es.length = xs.length) ∧
  (∀ {m : Mx} {X : Cx} {W : WX} {es : List E} {xs : List Keyword}, FitM c lv m X W → mKs n m es xs = true → PK X xs (tAs c W es) ∧ es.length = xs.length) ∧
  (∀ {m : Mx} {X : Cx} {W : WX} {es : List E} {x : Option Expr}, FitM c lv m X W → mO n m es x = true → PO X x (tSlO c W es)) ∧
  (∀ {m : Mx} {X : Cx} {W : WX} {es : List E} {xs : List Expr}, FitM c lv m X W → mCs n m es xs = true → PTs X xs (tCs c W es)) ∧
  (∀ {m : Mx} {X : Cx} {W : WX} {k : Src} {es : List E} {tg it : Expr}, FitM c lv m X W → mI n m k es tg it = true → PI X tg it (tI c W k es)) ∧
  (∀ {m : Mx} {X : Cx} {W : WX} {t : Tg} {x : Expr}, FitM c lv m X W → mG n m t x = true → PG X x (tG c t)) ∧
  (∀ {m : Mx} {X : Cx} {W : WX} {ts : List Tg} {xs : List Expr}, FitM c lv m X W → mGs n m ts xs = true → PGs X xs (tGs c ts))
end
end DS
/-! DS14: the matcher is sound: expressions. -/
namespace DS
open PySem PySem.Spec PyProof.Rows L2
section
variable {c : Cn} {lv n : Nat} {m : Mx} {X : Cx} {W : WX} {e : E} {x : Expr}
theorem m_callK {k : Nat} {gi : Gi} {as : List E} {xs : List Expr} {kws : List Keyword} {y : Str} {p pos : Pos} (f : FitM c lv m X W) (hG : m.G[k]? = some gi) (h1 : gi.name = y) (h2 : glB m.sc y = true) (h3 : (y == ("__debug__" : Str)) = false) (ha : PA X xs (tAs c W (as.take xs.length))) (hs : xs.all noStar = true) (hl : (as.take xs.length).length = xs.length)
    (hk : PK X kws (tAs c W (as.drop xs.length))) (hlk : (as.drop xs.length).length = kws.length) (h6 : kws.map (·.arg) = gi.ks.map some) (h7 : posT 0 (as.map ioB) = gi.io) (h8 : as.length = gi.np) : PE X (.Call (.Name y p) xs kws pos) (tE c W (.call k as)) := by
  have := e_call (p := p) (pos := pos) f.g (by rw [f.G]; exact hG) h1 h2 h3 ha hs hl hk hlk h6 (by rw [List.take_append_drop]; exact h7) (by rw [List.take_append_drop]; exact h8)
  rwa [List.take_append_drop] at this
theorem m_bltA {o : Op} {as : List E} {xs : List Expr} {y : Str} {p pos : Pos} (f : FitM c lv m X W) (h : bltN o = some y) (hg : glB m.sc y = true) (hn : (!as.isEmpty) = true) (ha : PA X xs (tAs c W as)) (hs : xs.all noStar = true) (hl : as.length = xs.length) : PE X (.Call (.Name y p) xs [] pos) (tE c W (.op o as)) := by
  cases xs with
  | nil =>
    cases as with
    | nil => simp at hn
    | cons => simp at hl
  | cons x xs => exact m_blt f h hg ha hs
theorem e_comp2 {k : Src} {es : List E} {t : Tg} {cs : List E} {b : E} {elt tg it : Expr} {ifs : List Expr} {scope sc : Scope} {fb : Str → Bool} {N : List Str} {own : List (Str × Nat)} {sl : List Nat} {pos : Pos} (ho : own.map (·.2) = sl) (g : Fit c lv sc fb N X W) (hb : blkC N sc scope own = true)
    (hv : sl.Nodup) (hio : ∀ i ∈ sl, i ∉ c.io) (ht : ∀ i ∈ t.ns, i ∈ sl) (hs : noSetE it = true) (hi : PI X tg it (tI c W k es))
    (h1 : ∀ {X' : Cx}, Fit c lv (relS scope sc) (cellB scope) N X' W0 → PG X' tg (tG c t)) (h2 : ∀ {X' : Cx}, Fit c lv (relS scope sc) (cellB scope) N X' W0 → PTs X' ifs (tCs c W0 cs)) (h3 : ∀ {X' : Cx}, Fit c lv (relS scope sc) (cellB scope) N X' W0 → PE X' elt (tE c W0 b)) :
    PE X (.ListComp elt [⟨tg, it, ifs, 0⟩] scope pos) (tE c W (.comp k es t cs b sl)) := by
  subst ho
  exact e_comp g hb hv hio ht hs hi h1 h2 h3
theorem tC_tE {d : D} {v : V} {x : Expr} (hp : PE X x (tC v)) (hr : ∀ Z H, RD c.k Z H d v) : PE X x (tE c W (.con d)) := by
  refine PE.imp hp ?_
  rintro σ H Q ⟨B, Z, e, T, K, R, wd, we, q, _⟩
  exact q v Z H _ _ (wd.push (hr Z H)) we
theorem cst_in (f : FitM c lv m X W) {y : Str} {g : Option Str} {d : D} (h : cstB m y g d = true) : Gl X y ∧ (y == ("__debug__" : Str)) = false ∧ CstOk X.K X.mg (y, g, d) := by
  unfold cstB at h
  simp only [Bool.and_eq_true, List.any_eq_true, decide_eq_true_eq, Bool.not_eq_true'] at h
  obtain ⟨⟨h1, h2⟩, q, hq, ⟨rfl, rfl⟩, h3⟩ := h
  have := f.g.cst q (by rw [f.cs]; exact hq)
  rw [show q = (q.1, q.2.1, q.2.2) from rfl, scEq_of h3] at this
  exact ⟨gl_of f.g h1, h2, this⟩
theorem e_cst {y : Str} {d : D} {p : Pos} (f : FitM c lv m X W) (h : cstB m y none d = true) : PE X (.Name y p) (tE c W (.con d)) := by
  obtain ⟨hg, hd, v, ⟨u, hm, r⟩, hr⟩ := cst_in f h
  exact tC_tE (pe_glob (hd := hd) hg hm r) fun Z H => hr c.k Z H
theorem e_cstA {y g : Str} {d : D} {p ap : Pos} (f : FitM c lv m X W) (h : cstB m y (some g) d = true) : PE X (.Attribute (.Name y p) g ap) (tE c W (.con d)) := by
  obtain ⟨hg, hd, v, ⟨D, mc, u, hm, h1, h2⟩, hr⟩ := cst_in f h
  refine tC_tE (PE.imp (ClX.pe_cval (pe_glob (v := .ref D) (hd := hd) hg hm rfl) rfl) ?_) fun Z H => hr c.k Z H
  intro σ H Q q
  exact ⟨D, mc, v, u, rfl, h1, h2, q⟩
theorem okE (ih : MOk c lv n) (f : FitM c lv m X W) (h : mE (n + 1) m e x = true) : PE X x (tE c W e) := by
  obtain ⟨iE, iX, iT, iL, iEs, iAs, iKs, iO, iCs, iI, iG, iGs⟩ := ih
  unfold mE at h
  split at h
  · -- BoolOp
    split at h
    · exact pe_one (iE f h)
    · split at h
      · simp only [Bool.and_eq_true] at h; exact e_and f.g (iE f h.1) (iE f h.2)
      · simp only [Bool.and_eq_true] at h; exact e_or f.g (iE f h.1) (iE f h.2)
      · cases h
    · cases h
  · split at h
    · obtain ⟨h1, h2, h3, h4⟩ := nm_of h; exact e_var f.g h1 h2 h3 h4
    · obtain ⟨h1, h2, h3, h4⟩ := nm_of h; exact e_mov f.g h1 h2 h3 h4
    · exact e_cst f h
    · cases h
  · split at h
    · exact e_cstA f h
    · cases h
  · split at h
    · exact e_con h
    · cases h
  · split at h
    · simp only [Bool.and_eq_true] at h; exact e_ife (iT f h.1.1) (iE f h.1.2) (iE f h.2)
    · cases h
  · split at h
    · simp only [Bool.and_eq_true] at h; exact e_not f.g (iE f h.2) h.1
    · exact e_op1 (pe_un un_neg (iX f h)) w_neg
    · cases h
  · split at h
    · simp only [Bool.and_eq_true] at h; exact m_bin f h.1.1 (iX f h.1.2) (iX f h.2)
    · cases h
  · split at h
    · simp only [Bool.and_eq_true, Bool.not_eq_true'] at h
      obtain ⟨rr, h1, h2⟩ := m_cmp f h.1.1.1
      exact e_op2 (pe_cmpR h1 (iX f h.1.2) (iX f h.2) h.1.1.2) h2
    · simp only [Bool.and_eq_true] at h
      obtain ⟨j, p, rfl⟩ := isNone_of h.1
      exact e_isN (iX f h.2)
    · simp only [Bool.and_eq_true] at h
      obtain ⟨j, p, rfl⟩ := isNone_of h.1
      exact e_notN (iX f h.2)
    · simp only [Bool.and_eq_true, Bool.not_eq_true'] at h
      obtain ⟨r1, h1, h2⟩ := m_cmp f h.1.1.1.1.1
      obtain ⟨r2, h3, h4⟩ := m_cmp f h.1.1.1.1.2
      exact PE.imp (pe_chain h1 h3 (iE f h.1.1.2) (iE f h.1.2) (iE f h.2) h.1.1.1.2) (chainX h2 h4)
    · cases h
  · split at h
    · simp only [Bool.and_eq_true] at h; exact w_tup (iEs f h.2).1 h.1
    · cases h
  · split at h
    · simp only [Bool.and_eq_true] at h; exact w_lst (iEs f h.2).1 h.1
    · cases h
  · split at h
    · simp only [Bool.and_eq_true] at h; exact e_idx f.g (iX f h.1.2) (iX f h.2) h.1.1
    · simp only [Bool.and_eq_true] at h; exact e_rev f.g.hK (iX f h.2) h.1
    · split at h
      · simp only [Bool.and_eq_true] at h; exact w_slc f.g.hK (iX f h.1.1) (iO f h.1.2) (iO f h.2)
      · cases h
    · cases h
  · split at h
    · split at h
      · split at h
        · rename_i gi hG
          simp only [Bool.and_eq_true, decide_eq_true_eq, Bool.not_eq_true'] at h
          obtain ⟨⟨⟨⟨⟨⟨⟨h1, h2⟩, h3⟩, h4⟩, h5⟩, h6⟩, h7⟩, h8⟩ := h
          obtain ⟨ha, hs, hl⟩ := iAs f h4
          obtain ⟨hk, hlk⟩ := iKs f h5
          exact m_callK f hG h1 h2 h3 ha hs hl hk hlk h6 h7 h8
        · cases h
      · simp only [Bool.and_eq_true, decide_eq_true_eq, List.isEmpty_iff] at h
        obtain ⟨⟨⟨rfl, rfl⟩, hg⟩, h⟩ := h
        split at h
        · split at h
          · simp only [Bool.and_eq_true] at h
            exact e_isi1 f.g (iX f h.1.1) h.1.2 hg h.2
          · cases h
        · simp only [Bool.and_eq_true, decide_eq_true_eq] at h
          exact e_isiT f.g (iX f h.1.1.1) h.1.1.2 hg h.1.2 h.2
        · cases h
      · simp only [Bool.and_eq_true, decide_eq_true_eq, List.isEmpty_iff] at h
        obtain ⟨⟨⟨rfl, rfl⟩, hg⟩, h⟩ := h
        split at h
        · simp only [Bool.and_eq_true, decide_eq_true_eq] at h
          obtain ⟨⟨⟨rfl, h2⟩, h3⟩, h4⟩ := h
          exact e_itemsL f.g (iX f h4) (gl_of f.g hg) (blt_of f (by decide)) h2 h3
        · cases h
      · simp only [Bool.and_eq_true, decide_eq_true_eq, List.isEmpty_iff] at h
        obtain ⟨⟨⟨rfl, rfl⟩, hg⟩, h⟩ := h
        split at h
        · simp only [Bool.and_eq_true, decide_eq_true_eq] at h
          obtain ⟨⟨⟨rfl, h2⟩, h3⟩, h4⟩ := h
          exact e_valsL f.g (iX f h4) (gl_of f.g hg) (blt_of f (by decide)) h2 h3
        · cases h
      · simp only [Bool.and_eq_true, decide_eq_true_eq, List.isEmpty_iff] at h
        obtain ⟨⟨⟨⟨rfl, h1⟩, h2⟩, h3⟩, h4⟩ := h
        obtain ⟨ha, hs, hl⟩ := iAs f h4
        exact m_bltA f h1 h2 h3 ha hs hl
      · cases h
    · split at h
      · simp only [Bool.and_eq_true, decide_eq_true_eq, List.isEmpty_iff] at h
        obtain ⟨⟨⟨⟨⟨⟨rfl, h1⟩, h2⟩, h3⟩, h4⟩, h5⟩, h6⟩ := h
        obtain ⟨ha, hs, hl⟩ := iAs f h6
        exact m_mth f h1 (iX f h5) ha hs hl h4 h2 h3
      · cases h
    · cases h
  · split at h
    · simp only [Bool.and_eq_true, List.isEmpty_iff] at h
      obtain ⟨rfl, rfl⟩ := h
      exact e_dnew
    · cases h
  · split at h
    · rename_i k es t cs b sl
      simp only [Bool.and_eq_true, decide_eq_true_eq, List.all_eq_true] at h
      obtain ⟨⟨⟨⟨⟨⟨⟨⟨h1, h2⟩, h3⟩, h4⟩, h5⟩, h6⟩, h7⟩, h8⟩, h9⟩ := h
      exact e_comp2 own_map f.g h2 h1 (by rw [f.io]; exact h3) h4 h5 (iI f h6) (fun g => iG (f.inC g) h7) (fun g => iCs (f.inC g) h8) (fun g => iE (f.inC g) h9)
    · cases h
  · cases h
theorem okRest (ih : MOk c lv n) : MOk c lv (n + 1) := by
  refine ⟨fun f h => okE ih f h, ?_⟩
  obtain ⟨iE, iX, iT, iL, iEs, iAs, iKs, iO, iCs, iI, iG, iGs⟩ := ih
  refine ⟨?_, ?_, ?_, ?_, ?_, ?_, ?_, ?_, ?_, ?_, ?_⟩
  · intro m X W e x f h
    unfold mX at h
    split at h
    · obtain ⟨h1, h2, h3, h4⟩ := nm_of h; exact x_io f.g h1 h2 h3 h4
    · cases h
    · rename_i e x hn _
      rw [tX_v (by rw [← Bool.not_eq_true]; intro hc; unfold ioB at hc; split at hc <;> simp_all)]
      exact iE f h
  · intro m X W e x f h
    unfold mT at h
    split at h
    · exact (iL f h).pt
    · split at h
      · exact t_not (iT f h)
      · cases h
    · split at h
      · simp only [Bool.and_eq_true] at h
        exact t_ife (iT f h.1.1) (iT f h.1.2) (iT f h.2) (pt_ifE (iT f h.1.1) (iT f h.1.2) (iT f h.2))
      · cases h
    · split at h
      · simp only [Bool.and_eq_true, Bool.not_eq_true'] at h
        obtain ⟨rr, h1, h2⟩ := m_cmp f h.1.1.1
        exact t_op2 (pt_cmpR h1 (iX f h.1.2) (iX f h.2) h.1.1.2) (cmp_bl h.1.1.1) h2
      · simp only [Bool.and_eq_true] at h
        obtain ⟨j, p, rfl⟩ := isNone_of h.1
        exact t_isN (iX f h.2)
      · simp only [Bool.and_eq_true] at h
        obtain ⟨j, p, rfl⟩ := isNone_of h.1
        exact t_notN (iX f h.2)
      · simp only [Bool.and_eq_true, Bool.not_eq_true'] at h
        obtain ⟨r1, h1, h2⟩ := m_cmp f h.1.1.1.1.1
        obtain ⟨r2, h3, h4⟩ := m_cmp f h.1.1.1.1.2
        exact PT.imp (pt_chain h1 h3 (iE f h.1.1.2) (iE f h.1.2) (iE f h.2) h.1.1.1.2) fun σ H Q hq => chainX h2 h4 σ H _ (tT_tE (same_eq rfl c.Γ) hq)
      · cases h
    · split at h
      · obtain ⟨h1, h2, h3, h4⟩ := nm_of h; exact t_io f.g h1 h2 h3 h4
      · obtain ⟨h1, h2, h3, h4⟩ := nm_of h; exact t_leaf f.g (e_var f.g h1 h2 h3 h4) rfl rfl
      · obtain ⟨h1, h2, h3, h4⟩ := nm_of h; exact t_leaf f.g (e_mov f.g h1 h2 h3 h4) rfl rfl
      · cases h
    · simp only [Bool.and_eq_true] at h
      exact t_leaf f.g (iE f h.2) h.1.1 h.1.2
  · intro m X W e op xs p f h
    unfold mL at h
    split at h
    · cases h
    · cases op
      · exact pw_and1 (iT f h)
      · exact pw_or1 (iT f h)
    · split at h
      · simp only [Bool.and_eq_true] at h; exact t_and (iT f h.1) (iL f h.2)
      · simp only [Bool.and_eq_true] at h; exact t_or (iT f h.1) (iL f h.2)
      · cases h
  · intro m X W es xs f h
    unfold mEs at h
    split at h
    · exact ⟨a_nil, rfl, rfl⟩
    · simp only [Bool.and_eq_true] at h
      obtain ⟨h1, h2, h3⟩ := iEs f h.2
      exact ⟨a_cons (iE f h.1.2) h1 h.1.1, by simp [h.1.1, h2], by simp [h3]⟩
    · cases h
  · intro m X W es xs f h
    unfold mAs at h
    split at h
    · exact ⟨as_nil, rfl, rfl⟩
    · simp only [Bool.and_eq_true] at h
      obtain ⟨h1, h2, h3⟩ := iAs f h.1
      obtain ⟨_, h4⟩ := h
      split at h4
      · obtain ⟨q1, q2, q3, q4⟩ := nm_of h4
        exact ⟨as_io f.g q1 q2 q3 q4 h1, by simp [noStar, h2], by simp [h3]⟩
      · cases h4
      · rename_i e x _ _ _ hn1 hn2
        simp only [Bool.and_eq_true] at h4
        exact ⟨as_cons (iE f h4.2) h1 h4.1 (by rw [← Bool.not_eq_true]; intro hc; unfold ioB at hc; split at hc <;> simp_all), by simp [h4.1, h2], by simp [h3]⟩
    · cases h
  · intro m X W es xs f h
    unfold mKs at h
    split at h
    · exact ⟨ks_nil, rfl⟩
    · rename_i e es kw kws
      cases kw
      simp only [Bool.and_eq_true, Bool.not_eq_true'] at h
      obtain ⟨h1, h2⟩ := iKs f h.1.1
      exact ⟨ks_cons (iE f h.2) h1 h.1.2, by simp [h2]⟩
    · cases h
  · intro m X W es x f h
    unfold mO at h
    split at h
    · exact po_none
    · exact po_some (iE f h)
    · cases h
  · intro m X W es xs f h
    unfold mCs at h
    split at h
    · exact c_nil
    · exact c_one (iT f h)
    · cases h
  · intro m X W k es tg it f h
    unfold mI at h
    split at h
    · exact i_seq f (iE f h)
    · split at h
      · simp only [Bool.and_eq_true, decide_eq_true_eq] at h
        obtain ⟨h1, h2, h3⟩ := iEs f h.1.2
        obtain ⟨⟨⟨rfl, hg⟩, _⟩, h5⟩ := h
        exact i_rng f hg h1 h2 h3 h5
      · cases h
    · split at h
      · simp only [Bool.and_eq_true, decide_eq_true_eq] at h
        obtain ⟨⟨⟨rfl, hg⟩, h3⟩, h4⟩ := h
        exact i_enm f hg (iE f h4) h3
      · cases h
    · split at h
      · simp only [Bool.and_eq_true, decide_eq_true_eq] at h
        obtain ⟨⟨⟨rfl, hg⟩, h3⟩, h4⟩ := h
        exact i_itm f (iE f h4) hg h3
      · cases h
    · split at h
      · simp only [Bool.and_eq_true, decide_eq_true_eq] at h
        obtain ⟨⟨⟨rfl, hg⟩, h3⟩, h4⟩ := h
        exact i_vals f (iE f h4) hg h3
      · cases h
    · cases h
  · intro m X W t x f h
    unfold mG at h
    split at h
    · simp only [Bool.and_eq_true, decide_eq_true_eq] at h
      exact g_name f.g h.1.1 h.1.2 (by rw [f.io]; exact h.2)
    · simp only [Bool.and_eq_true, decide_eq_true_eq] at h
      exact g_tup f.g (iGs f h.1.1) h.1.2 h.2
    · cases h
  · intro m X W ts xs f h
    unfold mGs at h
    split at h
    · exact g_nil
    · simp only [Bool.and_eq_true] at h
      exact g_cons (iG f h.1.2) (iGs f h.2) h.1.1
    · cases h
theorem mok : ∀ n, MOk c lv n := by
  intro n
  induction n with
  | zero => refine ⟨?_, ?_, ?_, ?_, ?_, ?_, ?_, ?_, ?_, ?_, ?_, ?_⟩ <;> (intros; rename_i h; first | (unfold mE at h; cases h; done) | (unfold mX at h; cases h; done) | (unfold mT at h; cases h; done) | (unfold mL at h; cases h; done) | (unfold mEs at h; cases h; done) | (unfold mAs at h; cases h; done) | (unfold mKs at h; cases h; done) | (unfold mO at h; cases h; done) | (unfold mCs at h; cases h; done) | (unfold mI at h; cases h; done) | (unfold mG at h; cases h; done) | (unfold mGs at h; cases h; done))
  | succ n ih => exact okRest ih
end
end DS
/-! DS15: statements against the text. -/
namespace DS
open PySem PySem.Spec PyProof.Rows L2
/-- a comprehension stored on its own line into a local name -/
def swC (sc : Scope) (y : Str) (py : Pos) : Expr → Bool
  | .ListComp _ _ scope p => (match sc.names.lookup y with | some .local => true | _ => false) && (py.line == p.line) && !(scope.names.any fun (n, k) => n == y && (k == .local || k == .cell))
  | _ => false
def fnK (sc : Scope) : Bool := match sc.kind with | .function => true | _ => false
def mNs (m : Mx) : List Nat → List Expr → Bool
  | [], [] => true
  | i :: is, .Name y _ :: xs => decide (m.N[i]? = some y) && stoB m.sc m.fb y && decide (i ∉ m.io) && mNs m is xs
  | _, _ => false
mutual
def mS : Nat → Mx → S → Stmt → Bool
  | 0, _, _, _ => false
  | n + 1, m, s, st => match s, st with
    | .pas, .Pass _ => true
    | .pas, .Expr (.Constant (.str _) _ _) _ => true
    | .brk, .Break _ => true
    | .cnt, .Continue _ => true
    | .retN, .Return none _ => true
    | .ret e, .Return (some x) _ => mE n m e x
    | .exp e, .Expr x _ => noCompE x && mE n m e x
    | .ifs c a b, .If x s1 s2 _ => mT n m c x && mSs n m a s1 && mSs n m b s2
    | .wh c b, .While x s1 [] _ => mT n m c x && mSs n m b s1
    | .fo k es t b, .For tg it s1 [] _ => noSetE it && mI n m k es tg it && mG n m t tg && mSs n m b s1
    | .app i e, .Expr (.Call (.Attribute (.Name y _) f ap) [x] [] cp) _ => decide (f = "append") && nmB m i y && lineB ap cp && noStar x && mE n m e x
    | .sti i k e, .Assign [.Subscript (.Name y _) xk _] x _ => nmB m i y && noSlice xk && noCompE x && noTupE x && mE n m k xk && mE n m e x
    | .set i e, .Assign [.Name y py] x _ => decide (m.N[i]? = some y) && stoB m.sc m.fb y && decide (i ∉ m.io) && (if noCompE x then mE n m e x else swC m.sc y py x && mE n m e x)
    | .tgt t e, .Assign [tg] x _ => tgB tg && mG n m t tg && noCompE x && noTupE x && mE n m e x
    | .par is es, .Assign [.Tuple ts _ _] (.Tuple vs _ _) _ => mEs n m es vs && mNs m is ts && decide (is.length ≤ 1000) &&
        ((match is, ts, vs with
          | [i, j], [.Name x px, .Name y py], [xa, xb] => sw2 m.sc x y px py xa xb && decide (i ≠ j)
          | _, _, _ => false) || (ts.all tgB && decide (ts.length = is.length) && swQ .function m.sc ts vs))
    | _, _ => false
def mSs : Nat → Mx → List S → List Stmt → Bool
  | 0, _, _, _ => false
  | n + 1, m, ss, sts => match ss, sts with
    | [], [] => true
    | s :: ss, st :: sts => mS n m s st && mSs n m ss sts
    | _, _ => false
end
section
variable {c : Cn} {lv n : Nat} {m : Mx} {X : Cx} {W : WX}
theorem mNs_ok (f : FitM c lv m X W) : ∀ {is : List Nat} {xs : List Expr}, mNs m is xs = true → PGs X xs (tGp c is)
  | [], [], _ => gp_nil
  | i :: is, .Name y p :: xs, h => by
    simp only [mNs, Bool.and_eq_true, decide_eq_true_eq] at h
    exact gp_cons f.g h.1.1.1 h.1.1.2 (by rw [f.io]; exact h.1.2) (mNs_ok f h.2)
  | [], _ :: _, h => by simp [mNs] at h
  | _ :: _, [], h => by simp [mNs] at h
theorem bk_of (f : FitM c lv m X W) (hk : fnK m.sc = true) : X.env.blockKind = .function := by
  unfold fnK at hk
  unfold Env.blockKind
  rw [f.g.hsc]
  split at hk
  · rename_i e; rw [e]; rfl
  · cases hk
theorem s_setc2 {i : Nat} {y : Str} {pos' : Pos} {k : Src} {es : List E} {t : Tg} {cs : List E} {x : E} {elt tg it : Expr} {ifs : List Expr} {scope sc : Scope} {fb : Str → Bool} {N : List Str} {own : List (Str × Nat)} {sl : List Nat} {pos spos : Pos} (ho : own.map (·.2) = sl) (g : Fit c lv sc fb N X W) (hN : N[i]? = some y) (hy : sc.names.lookup y = some .local)
    (hsw : swapsWith (.ListComp elt [⟨tg, it, ifs, 0⟩] scope pos) (some (.Name y pos')) spos.line X.env = pure true) (hi0 : i ∉ c.io) (hb : blkC N sc scope own = true)
    (hv : sl.Nodup) (hio : ∀ i ∈ sl, i ∉ c.io) (ht : ∀ i ∈ t.ns, i ∈ sl) (hs : noSetE it = true) (hi : PI X tg it (tI c W k es))
    (h1 : ∀ {X' : Cx}, Fit c lv (relS scope sc) (cellB scope) N X' W0 → PG X' tg (tG c t)) (h2 : ∀ {X' : Cx}, Fit c lv (relS scope sc) (cellB scope) N X' W0 → PTs X' ifs (tCs c W0 cs)) (h3 : ∀ {X' : Cx}, Fit c lv (relS scope sc) (cellB scope) N X' W0 → PE X' elt (tE c W0 x)) :
    PS X (.Assign [.Name y pos'] (.ListComp elt [⟨tg, it, ifs, 0⟩] scope pos) spos) (tS c W (.set i (.comp k es t cs x sl))) := by
  subst ho
  exact s_setc g hN hy hsw hi0 hb hv hio ht hs hi h1 h2 h3
theorem s_setC {i : Nat} {y : Str} {py pos : Pos} {e : E} {x : Expr} (f : FitM c lv m X W) (hk : fnK m.sc = true) (h1 : m.N[i]? = some y) (h2 : stoB m.sc m.fb y = true) (h3 : i ∉ c.io) (hsw : swC m.sc y py x = true) (h : mE n m e x = true) : PS X (.Assign [.Name y py] x pos) (tS c W (.set i e)) := by
  cases x <;> first | (cases hsw; done) | skip
  rename_i elt gens scope p
  simp only [swC, Bool.and_eq_true, Bool.not_eq_true'] at hsw
  obtain ⟨⟨q1, q2⟩, q3⟩ := hsw
  have hy : m.sc.names.lookup y = some .local := loc_is q1
  have hkf : X.env.scope.kind = .function := by
    unfold fnK at hk
    rw [f.g.hsc]
    split at hk
    · assumption
    · cases hk
  cases n with
  | zero => unfold mE at h; cases h
  | succ n =>
    obtain ⟨iE, iX, iT, iL, iEs, iAs, iKs, iO, iCs, iI, iG, iGs⟩ := mok (c := c) (lv := lv) n
    unfold mE at h
    dsimp only at h
    split at h
    · rename_i k es t cs b sl
      simp only [Bool.and_eq_true, decide_eq_true_eq, List.all_eq_true] at h
      obtain ⟨⟨⟨⟨⟨⟨⟨⟨h1', h2'⟩, h3'⟩, h4'⟩, h5'⟩, h6'⟩, h7'⟩, h8'⟩, h9'⟩ := h
      exact s_setc2 own_map f.g h1 hy (sw_true hkf (by rw [f.g.hsc]; exact hy) q2 q3) h3 h2' h1' (by rw [f.io]; exact h3') h4' h5' (iI f h6') (fun g => iG (f.inC g) h7') (fun g => iCs (f.inC g) h8') (fun g => iE (f.inC g) h9')
    · cases h
theorem s_par2' {i j : Nat} {x y : Str} {px py pt pt2 pos : Pos} {kt k2 : Nat} {xa xb : Expr} {es : List E} {sc : Scope} {fb : Str → Bool} {N : List Str} (g : Fit c lv sc fb N X W) (hi : N[i]? = some x) (hj : N[j]? = some y) (hij : i ≠ j) (h1 : i ∉ c.io) (h2 : j ∉ c.io) (hsw : sw2 sc x y px py xa xb = true) (hl : es.length = [xa, xb].length) (ha : PA X [xa, xb] (tEs c W es)) :
    PS X (.Assign [.Tuple [.Name x px, .Name y py] kt pt] (.Tuple [xa, xb] k2 pt2) pos) (tS c W (.par [i, j] es)) := by
  rcases es with _ | ⟨e1, _ | ⟨e2, _ | ⟨e3, es⟩⟩⟩
  · simp at hl
  · simp at hl
  · exact s_par2 g hi hj hij h1 h2 hsw ha
  · simp at hl
def MSOk (c : Cn) (lv : Nat) (n : Nat) : Prop :=
  (∀ {m : Mx} {X : Cx} {W : WX} {s : S} {st : Stmt}, FitM c lv m X W → fnK m.sc = true → PassesOwn (model X.prog X.w) X.A X.env X.xe → mS n m s st = true → PS X st (tS c W s)) ∧
  (∀ {m : Mx} {X : Cx} {W : WX} {ss : List S} {sts : List Stmt}, FitM c lv m X W → fnK m.sc = true → PassesOwn (model X.prog X.w) X.A X.env X.xe → mSs n m ss sts = true → PSs X sts (tSs c W ss))
theorem msok : ∀ n, MSOk c lv n := by
  intro n
  induction n with
  | zero => refine ⟨?_, ?_⟩ <;> (intros; rename_i h; first | (unfold mS at h; cases h; done) | (unfold mSs at h; cases h; done))
  | succ n ih =>
    obtain ⟨iS, iSs⟩ := ih
    obtain ⟨iE, iX, iT, iL, iEs, iAs, iKs, iO, iCs, iI, iG, iGs⟩ := mok (c := c) (lv := lv) n
    refine ⟨?_, ?_⟩
    · intro m X W s st f hk hp h
      unfold mS at h
      split at h
      · exact s_pas
      · exact s_doc
      · exact s_brk
      · exact s_cnt
      · exact s_retN
      · exact s_ret (iE f h)
      · simp only [Bool.and_eq_true] at h; exact s_exp (iE f h.2) h.1
      · simp only [Bool.and_eq_true] at h; exact s_ifs (iT f h.1.1) (iSs f hk hp h.1.2) (iSs f hk hp h.2)
      · simp only [Bool.and_eq_true] at h; exact s_whl hp (iT f h.1) (iSs f hk hp h.2)
      · simp only [Bool.and_eq_true] at h; exact s_for hp f.g (iI f h.1.1.2) (iG f h.1.2) (iSs f hk hp h.2) (noSet_of h.1.1.1 _)
      · simp only [Bool.and_eq_true, decide_eq_true_eq] at h
        obtain ⟨⟨⟨⟨rfl, h1⟩, h2⟩, h3⟩, h4⟩ := h
        obtain ⟨q1, q2, q3, q4⟩ := nm_of h1
        exact s_app f.g q1 q2 q3 q4 (iE f h4) h3 h2
      · simp only [Bool.and_eq_true] at h
        obtain ⟨⟨⟨⟨⟨h1, h2⟩, h3⟩, h4⟩, h5⟩, h6⟩ := h
        obtain ⟨q1, q2, q3, q4⟩ := nm_of h1
        exact s_sti f.g q1 q2 q3 q4 (iE f h6) (iE f h5) h3 h4 h2
      · simp only [Bool.and_eq_true, decide_eq_true_eq] at h
        obtain ⟨⟨⟨h1, h2⟩, h3⟩, h4⟩ := h
        split at h4
        · rename_i hc
          exact s_set f.g h1 h2 (by rw [f.io]; exact h3) (iE f h4) (noComp_of hc _ _ _)
        · simp only [Bool.and_eq_true] at h4
          exact s_setC f hk h1 h2 (by rw [f.io]; exact h3) h4.1 h4.2
      · simp only [Bool.and_eq_true] at h
        exact s_tgt f.g (iE f h.2) (iG f h.1.1.1.2) h.1.1.1.1 h.1.1.2 h.1.2
      · simp only [Bool.and_eq_true, Bool.or_eq_true, decide_eq_true_eq] at h
        obtain ⟨⟨⟨h1, h2⟩, h3⟩, h4⟩ := h
        rcases h4 with h4 | h4
        · split at h4
          · simp only [Bool.and_eq_true, decide_eq_true_eq] at h4
            obtain ⟨g1, _, g3⟩ := iEs f h1
            simp only [mNs, Bool.and_eq_true, decide_eq_true_eq] at h2
            exact s_par2' f.g h2.1.1.1 h2.2.1.1.1 h4.2 (by rw [f.io]; exact h2.1.2) (by rw [f.io]; exact h2.2.1.2) h4.1 g3 g1
          · cases h4
        · obtain ⟨⟨h4, h5⟩, h6⟩ := h4
          exact s_parT f.g (iEs f h1).1 (mNs_ok f h2) h4 h5 h3 (by rw [bk_of f hk]; exact h6)
      · cases h
    · intro m X W ss sts f hk hp h
      unfold mSs at h
      split at h
      · exact ss_nil
      · simp only [Bool.and_eq_true] at h; exact ss_cons (iS f hk hp h.1) (iSs f hk hp h.2)
      · cases h
end
end DS
/-! DS16: a def. -/
namespace DS
open PySem PySem.Spec PyProof.Rows L2
section
variable {C : Kx} {B : Bs} {Z : Addr → Prop} {H : Hp} {σ : Sl} {e : Ev} {T : Tm}
theorem slots_none : ∀ n : Nat, Slots C Z H (List.replicate n none) (List.replicate n none) []
  | 0 => rfl
  | n + 1 => by simp only [List.replicate_succ, Slots]; exact slots_none n
theorem slots_start {n : Nat} : ∀ {args : List O} {vs : List V} {F : List Addr}, ROs C Z H args vs F → Slots C Z H (args.map some ++ List.replicate n none) (vs.map some ++ List.replicate n none) F
  | [], vs, F, h => by
    simp only [ROs] at h
    obtain ⟨rfl, rfl⟩ := h
    exact slots_none n
  | o :: os, vs, F, h => by
    simp only [ROs] at h
    obtain ⟨v, r, F1, F2, rfl, rfl, h1, h2⟩ := h
    simp only [List.map_cons, List.cons_append, Slots]
    exact ⟨v, F1, F2, rfl, rfl, h1, slots_start h2⟩
theorem ROs.length : ∀ {args : List O} {vs : List V} {F : List Addr}, ROs C Z H args vs F → args.length = vs.length
  | [], vs, F, h => by simp only [ROs] at h; obtain ⟨rfl, rfl⟩ := h; rfl
  | o :: os, vs, F, h => by
    simp only [ROs] at h
    obtain ⟨v, r, F1, F2, rfl, rfl, h1, h2⟩ := h
    simp [ROs.length h2]
theorem outsOf_set {i : Nat} {x : Option O} : ∀ {io : List Nat} {e : Ev}, i ∉ io → outsOf io (e.set i x) = outsOf io e
  | [], _, _ => rfl
  | j :: io, e, h => by
    simp only [List.mem_cons, not_or] at h
    simp only [outsOf, outsOf_set h.2]
    rw [List.getElem?_set_ne h.1]
/-- the things that a def hands back -/
theorem Wd.outs {f : Nat → V} : ∀ {io : List Nat} {os : List O} {e : Ev} {T : Tm}, io.Nodup → outsOf io e = some os → (∀ i ∈ io, σ[i]? = some (some (f i))) → Wd C B Z H σ e T → ∃ e', Wd C B Z H σ e' (zipT os (io.map f) ++ T) ∧ os.length = io.length
  | [], os, e, T, _, h, _, w => by simp only [outsOf, Option.some.injEq] at h; subst h; exact ⟨e, w, rfl⟩
  | i :: io, os, e, T, nd, h, hs, w => by
    obtain ⟨hi, nd2⟩ := List.nodup_cons.mp nd
    simp only [outsOf] at h
    split at h
    · rename_i o ho
      simp only [Option.map_eq_some_iff] at h
      obtain ⟨l, h1, rfl⟩ := h
      obtain ⟨v, hv, w1⟩ := w.take ho
      have ev : v = f i := by
        have := hs i (List.mem_cons_self ..)
        rw [hv] at this
        injection this with this
        injection this
      subst ev
      have h2 : outsOf io (e.set i none) = some l := (outsOf_set hi).trans h1
      obtain ⟨e', w2, hl⟩ := Wd.outs nd2 h2 (fun j hj => hs j (List.mem_cons_of_mem _ hj)) w1
      refine ⟨e', ?_, by simp [hl]⟩
      simp only [List.map_cons, zipT, List.cons_append]
      exact w2.perm List.perm_middle
    · cases h
end
def bltL : List Str := ["len", "sum", "max", "min", "abs", "list", "tuple", "dict", "sorted", "int", "str", "repr", "all", "any", "isinstance", "range", "enumerate", "zip", "reversed", "bool"]
section
variable {c : Cn} {lv : Nat} {P : Program} {w : World} {K : PySem.W.Frag} {mg : Str → Option Value} {base : Heap}
theorem after_of {C : Kx} {Z Z2 : Addr → Prop} {H H2 : Hp} {F : List Addr} {io : List (Nat × V)} {σ : Sl} {e : Ev} {os : List O} {us : List V} (hl : os.length = us.length) (w : Wd C ⟨H, Z, F, io⟩ Z2 H2 σ e (zipT os us)) : After C Z H F Z2 H2 os us := by
  obtain ⟨F1, G, h1, h2, h3, h4⟩ := w.ex
  have hz : ∀ {os : List O} {us : List V}, os.length = us.length → (zipT os us).map (·.1) = os ∧ (zipT os us).map (·.2) = us := by
    intro os
    induction os with
    | nil => intro us h; cases us with
      | nil => exact ⟨rfl, rfl⟩
      | cons => simp at h
    | cons o os ih => intro us h; cases us with
      | nil => simp at h
      | cons u us =>
        obtain ⟨a, b⟩ := ih (us := us) (by simpa using h)
        simp only [zipT, List.map_cons, a, b, and_self]
  have hr := temps_ros h2
  rw [(hz hl).1, (hz hl).2] at hr
  exact ⟨w.z0, fun a z => by rcases w.z1 a z with q | q | q; exact .inl q; exact .inr (.inl q); exact .inr (.inr q), w.fr, w.zs, G, hr, (List.nodup_append.mp h3).2.1, fun a ha => h4 a (List.mem_append_right _ ha)⟩
/-- where nothing is promised -/
theorem Fn.fnOk0 {x qual : Str} {st : Stmt} {f : Addr} {fd : FuncData} {N ps : List Str} {fn : Fn} {fs : FS} (F : L2.Fun K x qual st f fd) (S : FnScope N ps (defScope st)) (hf : ∀ args K R, ¬ fs args K R) :
    FnOk P w K mg base (L2.CX P w) (lv + 1) f fd ps (spOf c fn.ps fn.io fs) := by
  refine F.okX S (fun vs H Q E h => ?_) fun cdv A outer s H vs Q E hr hsp => ?_
  · obtain ⟨_, _, _, _, _, _, _, _, _, _, hfs, _⟩ := h
    exact (hf _ _ _ hfs).elim
  · obtain ⟨_, _, _, _, _, _, _, _, _, _, hfs, _⟩ := hsp
    exact (hf _ _ _ hfs).elim
/-- a def keeps its promise -/
theorem Fn.fnOk {x qual : Str} {st : Stmt} {f : Addr} {fd : FuncData} {N ps : List Str} {fn : Fn} {fs : FS} (F : L2.Fun K x qual st f fd) (hK : K = c.k.K) (hw : w = c.k.w) (S : FnScope N ps (defScope st)) (hblt : ∀ x ∈ bltL, mg x = none) (hcs : ∀ q ∈ c.cs, CstOk K mg q) (hG : ∀ i gi, c.G[i]? = some gi → GAt c P w K mg base lv i gi)
    (hm : mSs 400 ⟨N, defScope st, fun _ => true, c.G, fn.io, c.cs⟩ fn.b (defBody st) = true) (h1 : N.length = fn.n) (h2 : ps.length = fn.ps) (h3 : fn.io.Nodup) (h4 : ∀ i ∈ fn.io, i < fn.ps) (ok : Fn.Ok c.Γ fn fs) :
    FnOk P w K mg base (L2.CX P w) (lv + 1) f fd ps (spOf c fn.ps fn.io fs) := by
  refine F.okX S (fun vs H Q E h => h.1.trans h2.symm) fun cdv A outer s H vs Q E hr hsp => ?_
  obtain ⟨hl, Z, args, FF, hro, hnd, hfz, hzs, KK, RR, hfs, post1, post2⟩ := hsp
  obtain ⟨hal, hws⟩ := ok args KK RR hfs
  let X := cxOf (L2.CX P w) P w K mg base N qual (defScope st) f cdv A outer s H E
  let c' : Cn := { c with io := fn.io }
  have fit : FitM c' lv ⟨N, defScope st, fun _ => true, c.G, fn.io, c.cs⟩ X (fun cls d _ H => E cls d H) := by
    refine ⟨⟨hK, hw, rfl, rfl, S.nd, rfl, hr, rfl, hblt, fun i gi h => ⟨hG i gi h⟩, hcs, takes_of (X := X) rfl rfl rfl rfl⟩, rfl, rfl, rfl⟩
  have kf : fnK (defScope st) = true := by
    unfold fnK
    rw [S.kind]
  refine ⟨tSs c' (fun cls d _ H => E cls d H) fn.b, (msok (c := c') (lv := lv) 400).2 fit kf (passes_of rfl) hm, ?_⟩
  refine ⟨⟨H, Z, FF, fn.io.map fun i => (i, vs.getD i .non)⟩, Z, startE fn.n args, _, _, ?_, hws, ?_, ?_⟩
  · have hlen := hro.length
    refine ⟨⟨FF, [], ?_, rfl, by simpa using hnd, fun a ha => ⟨hfz a (by simpa using ha), .inr (by simpa using ha)⟩⟩, hzs, fun a z => z, fun a z => .inl z, fun a o q _ => q, fun p hp => ?_⟩
    · unfold startE L2.start
      have e : N.length - vs.length = fn.n - args.length := by rw [h1, hlen]
      rw [e]
      exact slots_start hro
    · obtain ⟨i, hi, rfl⟩ := List.mem_map.mp hp
      have hlt : i < vs.length := by rw [hl]; exact h4 i hi
      simp [L2.start, List.getElem?_append_left, hlt]
  · have iop : ∀ {Z2 : Addr → Prop} {H2 : Hp} {σ : Sl} {e : Ev} {T : Tm}, Wd c.k ⟨H, Z, FF, fn.io.map fun i => (i, vs.getD i .non)⟩ Z2 H2 σ e T → ∀ i ∈ fn.io, σ[i]? = some (some (vs.getD i .non)) := fun w i hi => w.io (i, _) (List.mem_map.mpr ⟨i, hi, rfl⟩)
    refine ⟨fun σ Z2 H2 e w q => ?_, fun σ v Z2 H2 o e w q => ?_, fun σ Z2 H2 e w q => q.elim, fun σ Z2 H2 e w q => q.elim⟩
    · obtain ⟨os, ho, hk⟩ := q
      have w1 := w.push (d := .non) (v := .non) (by simp only [RD])
      obtain ⟨e', w2, hl2⟩ := w1.outs h3 ho (iop w1)
      exact post1 _ _ hk _ _ _ (after_of (by simp [hl2, iov]) (w2.perm (List.perm_append_singleton _ _)))
    · obtain ⟨os, ho, hk⟩ := q
      obtain ⟨e', w2, hl2⟩ := w.outs h3 ho (iop w)
      exact post1 _ _ hk _ _ _ (after_of (by simp [hl2, iov]) (w2.perm (List.perm_append_singleton _ _)))
  · refine ⟨by simp [c', List.map_map, Function.comp_def], fun σ x e Z2 H2 cls d w xr q => ?_⟩
    obtain ⟨os, ho, hk⟩ := q
    obtain ⟨e', w2, hl2⟩ := w.outs h3 ho fun i hi => w.io (i, _) (List.mem_map.mpr ⟨i, hi, rfl⟩)
    exact post2 _ _ hk _ _ _ _ (after_of (by simp [hl2, iov]) (by rw [List.append_nil] at w2; exact w2)) xr
end
end DS
/-! DS17: the defs of a law, one after another. -/
namespace DS
open PySem PySem.Spec PyProof.Rows L2
/-- another way to call a def: the first h arguments by place, the others by keywords, to be put in the order pm -/
structure Alt where
  j : Nat
  h : Nat
  ks : List Str
  pm : List Nat
/-- a def of the text with its promise -/
structure Df where
  x : Str
  st : Stmt
  N : List Str
  ps : List Str
  fn : Fn
  fs : FS
  al : Option Alt := none
def Df.ks (d : Df) : List Str := match d.al with
  | none => []
  | some a => a.ks
def Df.gi (d : Df) : Gi := ⟨d.x, d.fn.ps, d.fn.io, d.ks⟩
def gam (ds : List Df) : Gam := fun i => match ds[i]? with
  | some d => d.fs
  | none => fun _ _ _ => False
/-- the arguments in the order of the parameters -/
def pmG {α : Type} (z : α) (h : Nat) (pm : List Nat) (l : List α) : List α := l.take h ++ pm.map fun i => l.getD (h + i) z
/-- what is promised of the other way -/
def fsAl (h : Nat) (pm : List Nat) (fs : FS) : FS := fun args K R => ∃ (os : List O) (dd : List D), args = os ++ dd.map O.pu ∧ os.length = h ∧ fs (os ++ (pm.map fun i => dd.getD i .non).map O.pu) K R
/-- how the arguments bind -/
def BindEq (x : Str) (st : Stmt) (ps : List Str) (n h : Nat) (ks : List Str) (pm : List Nat) : Prop := ∀ (kV doc pmv : Value) (an : Option Addr) (cdv ct : Value) (us ws : List Value), us.length = n → ws.length = ks.length →
  bindArgs (PySem.W.fnOf x x (defArgs st) (defBody st) (defScope st) .none kV doc pmv an cdv ct) ⟨us, ks.zip ws⟩ = pure (ps.zip (pmG .none h pm (us ++ ws)))
/-- what the kernel checks of it -/
structure Df.Chk (cs : List (Str × Option Str × D)) (ds : List Df) (i : Nat) (d : Df) : Prop where
  sc : d.al = none → FnScope d.N d.ps (defScope d.st)
  m : d.al = none → (∀ args K R, ¬ d.fs args K R) ∨ mSs 400 ⟨d.N, defScope d.st, fun _ => true, (ds.take i).map Df.gi, d.fn.io, cs⟩ d.fn.b (defBody d.st) = true
  n : d.al = none → d.N.length = d.fn.n
  p : d.al = none → d.ps.length = d.fn.ps
  nd : d.al = none → d.fn.io.Nodup
  lt : d.al = none → ∀ j ∈ d.fn.io, j < d.fn.ps
  ok : d.al = none → Fn.Ok (gam ds) d.fn d.fs
  b : d.al = none → BindEq d.x d.st d.ps d.ps.length d.ps.length [] []
  al : ∀ a, d.al = some a → ∃ dj, a.j < i ∧ ds[a.j]? = some dj ∧ dj.al = none ∧ dj.x = d.x ∧ dj.fn.io = d.fn.io ∧ (∀ k ∈ d.fn.io, k < a.h) ∧ d.fn.ps = a.h + a.pm.length ∧ dj.fn.ps = a.h + a.pm.length ∧ a.ks.length ≤ d.fn.ps ∧ (∀ k ∈ a.pm, k < a.pm.length) ∧ d.fs = fsAl a.h a.pm dj.fs ∧ BindEq dj.x dj.st dj.ps (d.fn.ps - a.ks.length) a.h a.ks a.pm
theorem rds_get {C : Kx} {Z : Addr → Prop} {H : Hp} {dd : List D} {vs : List V} (r : RDs C Z H dd vs) : ∀ {pm : List Nat}, (∀ k ∈ pm, k < dd.length) → RDs C Z H (pm.map fun i => dd.getD i .non) (pm.map fun i => vs.getD i .non)
  | [], _ => by simp only [List.map_nil, RDs]
  | k :: pm, h => by
    simp only [List.map_cons, RDs]
    refine ⟨_, _, rfl, ?_, rds_get r fun j hj => h j (List.mem_cons_of_mem _ hj)⟩
    have hk := h k (List.mem_cons_self ..)
    obtain ⟨v, h1, h2⟩ := r.get (List.getElem?_eq_getElem hk)
    simpa [List.getD, h1, List.getElem?_eq_getElem hk] using h2
theorem ros_split {C : Kx} {Z : Addr → Prop} {H : Hp} {dd : List D} : ∀ {os : List O} {vs : List V} {F : List Addr}, ROs C Z H (os ++ dd.map O.pu) vs F → ∃ v1 v2, vs = v1 ++ v2 ∧ ROs C Z H os v1 F ∧ RDs C Z H dd v2 ∧ v1.length = os.length ∧ v2.length = dd.length
  | [], vs, F, r => by
    refine ⟨[], vs, rfl, ?_⟩
    induction dd generalizing vs F with
    | nil => simp only [List.map_nil, List.append_nil, ROs] at r; obtain ⟨rfl, rfl⟩ := r; simp only [ROs, RDs]; exact ⟨⟨trivial, trivial⟩, trivial, rfl, rfl⟩
    | cons d dd ih =>
      simp only [List.map_cons, List.nil_append, ROs, RO] at r
      obtain ⟨v, q, F1, F2, rfl, rfl, ⟨rfl, h1⟩, h2⟩ := r
      obtain ⟨h3, h4, _, h5⟩ := ih q F2 (by simpa using h2)
      simp only [ROs] at h3 ⊢
      refine ⟨⟨trivial, by simpa using h3.2⟩, ?_, rfl, by simp [h5]⟩
      simp only [RDs]
      exact ⟨v, q, rfl, h1, h4⟩
  | o :: os, vs, F, r => by
    simp only [List.cons_append, ROs] at r
    obtain ⟨v, q, F1, F2, rfl, rfl, h1, h2⟩ := r
    obtain ⟨v1, v2, rfl, h3, h4, h5, h6⟩ := ros_split h2
    refine ⟨v :: v1, v2, rfl, ?_, h4, by simp [h5], h6⟩
    simp only [ROs]
    exact ⟨v, v1, F1, F2, rfl, rfl, h1, h3⟩
theorem ros_join {C : Kx} {Z : Addr → Prop} {H : Hp} {dd : List D} {v2 : List V} (r2 : RDs C Z H dd v2) : ∀ {os : List O} {v1 : List V} {F : List Addr}, ROs C Z H os v1 F → ROs C Z H (os ++ dd.map O.pu) (v1 ++ v2) F
  | [], v1, F, r => by
    simp only [ROs] at r
    obtain ⟨rfl, rfl⟩ := r
    induction dd generalizing v2 with
    | nil => simp only [RDs] at r2; subst r2; simp only [List.map_nil, List.append_nil, ROs]; exact ⟨trivial, trivial⟩
    | cons d dd ih =>
      simp only [RDs] at r2
      obtain ⟨v, q, rfl, h1, h2⟩ := r2
      have := ih h2
      simp only [List.map_cons, List.nil_append, ROs, RO] at this ⊢
      exact ⟨v, q, [], [], rfl, rfl, ⟨rfl, h1⟩, this⟩
  | o :: os, v1, F, r => by
    simp only [ROs] at r
    obtain ⟨v, q, F1, F2, rfl, rfl, h1, h2⟩ := r
    simp only [List.cons_append, ROs]
    exact ⟨v, _, F1, F2, rfl, rfl, h1, ros_join r2 h2⟩
/-- the other way's promise, from the def's own -/
theorem sp_al {c c' : Cn} {np h : Nat} {io pm : List Nat} {fs : FS} {vs : List V} {H : Hp} {Q : VK} {E : XK} (hc : c.k = c'.k) (hx : c.xc = c'.xc) (hio : ∀ k ∈ io, k < h) (hp : ∀ k ∈ pm, k < pm.length) (hn : np = h + pm.length) (s : spOf c np io (fsAl h pm fs) vs H Q E) : spOf c' np io fs (pmG .non h pm vs) H Q E := by
  obtain ⟨hl, Z, args, F, r, nd, fz, zs, K, R, ⟨os, dd, rfl, ho, hf⟩, q1, q2⟩ := s
  rw [hc] at r q1 q2
  rw [hx] at q2
  obtain ⟨v1, v2, rfl, r1, r2, l1, l2⟩ := ros_split r
  have e1 : v1.length = h := l1.trans ho
  have e2 : v2.length = pm.length := by rw [List.length_append] at hl; omega
  have e3 : pmG V.non h pm (v1 ++ v2) = v1 ++ pm.map fun i => v2.getD i .non := by
    unfold pmG
    rw [← e1, List.take_left]
    congr 1
    refine List.map_congr_left fun i _ => ?_
    simp [List.getD, List.getElem?_append_right]
  have e4 : iov io (v1 ++ v2) = iov io (pmG V.non h pm (v1 ++ v2)) := by
    rw [e3]
    unfold iov
    refine List.map_congr_left fun i hi => ?_
    have : i < v1.length := by rw [e1]; exact hio i hi
    simp [List.getD, List.getElem?_append_left this]
  rw [e4] at q1 q2
  refine ⟨by rw [e3]; simp [e1, hn], Z, _, F, ?_, nd, fz, zs, K, R, hf, q1, q2⟩
  rw [e3]
  exact ros_join (rds_get r2 fun k hk => by have := hp k hk; omega) r1
theorem pm_vals {h : Nat} {pm : List Nat} {vs : List V} {us : List Value} (r : Vals vs us) : Vals (pmG .non h pm vs) (pmG .none h pm us) := by
  unfold pmG
  refine (r.take h).append ?_
  induction pm with
  | nil => exact .nil
  | cons k pm ih =>
    refine .cons ?_ ih
    by_cases hk : h + k < vs.length
    · obtain ⟨u, e1, e2⟩ := r.get (List.getElem?_eq_getElem hk)
      simpa [List.getD, e1, List.getElem?_eq_getElem hk] using e2
    · have hk2 : ¬ h + k < us.length := by rw [← r.length]; exact hk
      simp [List.getD, List.getElem?_eq_none (Nat.le_of_not_lt hk), List.getElem?_eq_none (Nat.le_of_not_lt hk2)]
      exact (rfl : Value.none = Value.none)
section
variable {P : Program} {w : World} {K : PySem.W.Frag} {mg : Str → Option Value} {base : Heap}
/-- what stands at a def's name -/
def Df.At (K : PySem.W.Frag) (mg : Str → Option Value) (d : Df) : Prop := d.al = none → ∃ f fd, L2.Fun K d.x d.x d.st f fd ∧ mg d.x = some (.ref f)
def cnOf (kx : Kx) (cs : List (Str × Option Str × D)) (ds : List Df) (i : Nat) : Cn := ⟨kx, fun _ => 0, (ds.take i).map Df.gi, [], gam ds, cs⟩
theorem kbn_of {x : Str} {st : Stmt} {f : Addr} {fd : FuncData} {ps ks : List Str} {n h : Nat} {pm : List Nat} (F : L2.Fun K x x st f fd) (b : BindEq x st ps n h ks pm) : KBn K fd ps n ks (fun us ws => pmG .none h pm (us ++ ws)) (fun vs zs => pmG .non h pm (vs ++ zs)) := by
  obtain ⟨oc, od, kV, doc, pmv, an, cdv, ct, osl, rfl, _, _⟩ := F.ex
  exact ⟨fun s us ws _ h1 h2 => .of_eq (b kV doc pmv an cdv ct us ws h1 h2), fun r1 r2 => pm_vals (r1.append r2)⟩
theorem fd_one {x : Str} {st : Stmt} {f : Addr} {fd fd2 : FuncData} (F : L2.Fun K x x st f fd) (F2 : L2.Fun K x x st f fd2) : fd = fd2 := by
  obtain ⟨_, _, _, _, _, _, _, _, _, _, l1, _⟩ := F.ex
  obtain ⟨_, _, _, _, _, _, _, _, _, _, l2, _⟩ := F2.ex
  rw [l1] at l2
  injection l2 with l2
  injection l2 with _ _ l2
  injection l2
theorem ref_one {a b : Addr} {o : Option Value} (h1 : o = some (.ref a)) (h2 : o = some (.ref b)) : a = b := by
  rw [h1] at h2
  injection h2 with h2
  injection h2
theorem chain {kx : Kx} {cs : List (Str × Option Str × D)} {ds : List Df} (hcs : ∀ q ∈ cs, CstOk K mg q) (hK : K = kx.K) (hw : w = kx.w) (hblt : ∀ x ∈ bltL, mg x = none) (hc : ∀ i d, ds[i]? = some d → Df.Chk cs ds i d) (ha : ∀ d ∈ ds, Df.At K mg d) :
    ∀ n i d, i < n → ds[i]? = some d → (d.al = none → ∃ f fd, L2.Fun K d.x d.x d.st f fd ∧ mg d.x = some (.ref f) ∧ FnOk P w K mg base (L2.CX P w) n f fd d.ps (spOf (cnOf kx cs ds i) d.fn.ps d.fn.io d.fs)) ∧
      ∀ m, GAt (cnOf kx cs ds m) P w K mg base n i d.gi := by
  intro n
  induction n with
  | zero => intro i d h; omega
  | succ n ih =>
    intro i d hi hd
    have h := hc i d hd
    have eg : (gam ds) i = d.fs := by unfold gam; rw [hd]
    have h1 : d.al = none → ∃ f fd, L2.Fun K d.x d.x d.st f fd ∧ mg d.x = some (.ref f) ∧ FnOk P w K mg base (L2.CX P w) (n + 1) f fd d.ps (spOf (cnOf kx cs ds i) d.fn.ps d.fn.io d.fs) := by
      intro hal
      obtain ⟨f, fd, F, hm⟩ := ha d (List.mem_of_getElem? hd) hal
      refine ⟨f, fd, F, hm, ?_⟩
      by_cases hn : i < n
      · obtain ⟨f2, fd2, F2, hm2, ok⟩ := (ih i d hn hd).1 hal
        have := ref_one hm hm2
        subst this
        have := fd_one F F2
        subst this
        exact ok.mono (Nat.le_succ n)
      · have e : i = n := by omega
        subst e
        rcases h.m hal with h0 | hm0
        · exact Fn.fnOk0 F (h.sc hal) h0
        refine Fn.fnOk (c := cnOf kx cs ds i) F hK hw (h.sc hal) hblt hcs (fun j gi hj => ?_) hm0 (h.n hal) (h.p hal) (h.nd hal) (h.lt hal) (h.ok hal)
        have hj' : j < i ∧ ∃ dj, ds[j]? = some dj ∧ dj.gi = gi := by
          simp only [cnOf, List.getElem?_map, Option.map_eq_some_iff] at hj
          obtain ⟨dj, h1, h2⟩ := hj
          rw [List.getElem?_take] at h1
          split at h1
          · exact ⟨by assumption, dj, h1, h2⟩
          · cases h1
        obtain ⟨hlt, dj, hdj, rfl⟩ := hj'
        exact (ih j dj hlt hdj).2 i
    refine ⟨h1, fun m => ?_⟩
    cases hal : d.al with
    | none =>
      obtain ⟨f, fd, F, hm, ok⟩ := h1 hal
      refine ⟨f, fd, d.ps, _, d.ps.length, fun us ws => pmG .none d.ps.length [] (us ++ ws), fun vs zs => pmG .non d.ps.length [] (vs ++ zs), ok, hm, F.kp, ?_, ?_, ?_⟩
      · have := kbn_of F (h.b hal)
        have e : d.gi.ks = [] := by unfold Df.gi Df.ks; rw [hal]
        rw [e]
        exact this
      · have e : d.gi.ks = [] := by unfold Df.gi Df.ks; rw [hal]
        rw [e]
        exact h.p hal
      · intro vs zs H Q E l1 l2 s
        have e : d.gi.ks = [] := by unfold Df.gi Df.ks; rw [hal]
        rw [e] at l2
        have e2 : zs = [] := List.length_eq_zero_iff.mp l2
        subst e2
        have e3 : pmG V.non d.ps.length [] (vs ++ []) = vs := by unfold pmG; rw [List.append_nil, ← l1, List.take_length, List.map_nil, List.append_nil]
        show spOf (cnOf kx cs ds i) d.fn.ps d.fn.io d.fs (pmG V.non d.ps.length [] (vs ++ [])) H Q E
        rw [e3]
        rw [List.append_nil] at s
        have eg2 : (cnOf kx cs ds m).Γ i = d.fs := eg
        rw [eg2] at s
        exact s
    | some a =>
      obtain ⟨dj, hj, hdj, haj, hx, hio, hlt, hp1, hp2, hks, hpm, hfs, hb⟩ := h.al a hal
      have hjn : a.j < n := by omega
      obtain ⟨f, fd, F, hm, ok⟩ := (ih a.j dj hjn hdj).1 haj
      have e : d.gi.ks = a.ks := by unfold Df.gi Df.ks; rw [hal]
      refine ⟨f, fd, dj.ps, _, d.fn.ps - a.ks.length, fun us ws => pmG .none a.h a.pm (us ++ ws), fun vs zs => pmG .non a.h a.pm (vs ++ zs), ok.mono (Nat.le_succ n), ?_, F.kp, ?_, ?_, ?_⟩
      · show mg d.x = _
        rw [← hx]
        exact hm
      · rw [e]
        exact kbn_of F hb
      · rw [e]
        show d.fn.ps - a.ks.length + a.ks.length = d.fn.ps
        omega
      · intro vs zs H Q E l1 l2 s
        have eg2 : (cnOf kx cs ds m).Γ i = fsAl a.h a.pm dj.fs := eg.trans hfs
        rw [eg2] at s
        rw [hio, hp2]
        refine sp_al (c := cnOf kx cs ds m) rfl rfl hlt hpm rfl ?_
        have e5 : d.gi.np = a.h + a.pm.length := hp1
        rw [e5] at s
        exact s
end
/-- the law's promise -/
def fsLaw : FS := fun args K _ => ∃ ns : List Int, args = [.pu (.scr (ns.map D.int))] ∧ ns.length ≤ 63 ∧ K (.pu (.bl true)) []
theorem rds_ints {C : Kx} {Z : Addr → Prop} {H : Hp} : ∀ ns : List Int, RDs C Z H (ns.map D.int) (ns.map V.int)
  | [] => by simp only [List.map_nil, RDs]
  | n :: ns => by simp only [List.map_cons, RDs]; exact ⟨_, _, rfl, by simp only [RD], rds_ints ns⟩
theorem law_sp {kx : Kx} {cs : List (Str × Option Str × D)} {ds : List Df} {i : Nat} {H : Hp} {a : Addr} {ns : List Int} (hl : ns.length ≤ 63) (h : SqL kx.K H a (ns.map V.int)) : spOf (cnOf kx cs ds i) 1 [] fsLaw [.ref a] H (fun v _ => v = .bl true) fun _ _ _ => False := by
  refine ⟨rfl, ?_⟩
  have fin : ∀ (Z : Addr → Prop), RD kx Z H (.scr (ns.map D.int)) (.ref a) → (∀ b, Z b → ∃ o, H b = some o) → ∃ Z args F, ROs kx Z H args [.ref a] F ∧ F.Nodup ∧ (∀ a ∈ F, ¬ Z a) ∧ (∀ a, Z a → ∃ o, H a = some o) ∧
      ∃ (K : O → List O → Prop) (R : Xp → List O → Prop), fsLaw args K R ∧ (∀ o outs, K o outs → ∀ Z' H' v, After kx Z H F Z' H' (o :: outs) (v :: iov [] [.ref a]) → v = .bl true) ∧ ∀ x outs, R x outs → ∀ Z' H' cls d, After kx Z H F Z' H' outs (iov [] [.ref a]) → XpRep kx (fun _ => 0) Z' H' x cls d → False := by
    intro Z rd hz
    refine ⟨Z, [.pu (.scr (ns.map D.int))], [], ?_, List.nodup_nil, fun _ h => by simp at h, hz, fun o outs => o = .pu (.bl true), fun _ _ => False, ⟨ns, rfl, hl, rfl⟩, ?_, fun _ _ h => h.elim⟩
    · simp only [ROs, RO]
      exact ⟨_, _, [], [], rfl, rfl, ⟨rfl, rd⟩, rfl, rfl⟩
    · rintro o outs rfl Z' H' v A
      obtain ⟨G, hr, _⟩ := A.ro
      simp only [ROs, RO] at hr
      obtain ⟨v', r, F1, F2, e, _, ⟨_, h1⟩, _⟩ := hr
      cases e
      exact h1.bl'
  rcases h with h | h
  · refine fin (fun b => b = a) (by simp only [RD]; exact ⟨a, _, rfl, .inl ⟨rfl, .inl h⟩, rds_ints ns⟩) fun b hb => ?_
    subst hb
    rcases h with h | ⟨o, h⟩
    · exact ⟨_, h⟩
    · exact ⟨_, h⟩
  · exact fin (fun _ => False) (by simp only [RD]; exact ⟨a, _, rfl, .inr fun H' => .inr h, rds_ints ns⟩) fun b hb => hb.elim
theorem law_end {l : PySem.W.OpenLaw} {q : Program} {loose : List Str} {XP : (Str → Option Value) → Heap → Prop} {YP : World → Heap → Prop} {d : DefRec} {K : Params → PySem.W.Frag} {x : Str} (cs : List (Str × Option Str × D)) (ds : List Df) (i : Nat) (dl : Df) (hi : ds[i]? = some dl) (hfs : dl.fs = fsLaw) (hp : dl.fn.ps = 1) (hio : dl.fn.io = []) (hx : dl.ps = [x]) (hdn : d.name = dl.x) (hal : dl.al = none)
    (hn : l.most = some 63) (hdf : d.params.defaults = []) (hr : Room ds.length callerA) (hY : ∀ (w : World) (h : Heap), YP w h → (K w.params).In h) (hc : ∀ i d, ds[i]? = some d → Df.Chk cs ds i d)
    (F : ∀ (w : World) (mg : Str → Option Value) (h : Heap), (K w.params).In h → h.Ns mainGlobals mg → (∀ d ∈ ds, Df.At (K w.params) mg d) ∧ (∀ x ∈ bltL, mg x = none) ∧ ∀ q ∈ cs, CstOk (K w.params) mg q)
    (hb : ∀ (kV doc pm : Value) (an : Option Addr) (cdv ct : Value) (u : Value), bindArgs (PySem.W.fnOf dl.x dl.x (defArgs dl.st) (defBody dl.st) (defScope dl.st) .none kV doc pm an cdv ct) ⟨[u], []⟩ = pure [(x, u)]) :
    PySem.W.WalkO q loose XP YP l.row.toRowW d [] (fun f vs => PySem.call f vs) := by
  refine walk_of (n := 63) (k := ds.length) (x := x) (CX := fun w => L2.CX l.prog w) (sp := fun w => spOf (cnOf ⟨w, K w.params, fun _ => 0⟩ cs ds i) 1 [] fsLaw) hn (by decide) hdf hr hY ?_ (fun w H a ns hl _ hS => law_sp hl hS) ?_
  · intro w mg fa h KX G hmg
    obtain ⟨hat, hbl, hcs⟩ := F w mg h KX G
    obtain ⟨f, fd, Fd, hm⟩ := hat dl (List.mem_of_getElem? hi) hal
    have ef : f = fa := by
      rw [← hdn, hmg] at hm
      exact ref_one hm rfl
    subst ef
    refine ⟨fd, fun s u => ?_, fun base hb1 hb2 => ?_⟩
    · obtain ⟨oc, od, kV, doc, pm, an, cdv, ct, osl, e1, _, _⟩ := Fd.ex
      subst e1
      exact .of_eq (hb kV doc pm an cdv ct u)
    · have hlt : i < ds.length := (List.getElem?_eq_some_iff.mp hi).1
      obtain ⟨f2, fd2, F2, hm2, ok⟩ := (chain (P := l.prog) (base := base) (kx := ⟨w, K w.params, fun _ => 0⟩) (mg := mg) hcs rfl rfl hbl hc hat ds.length i dl hlt hi).1 hal
      have := ref_one hm hm2
      subst this
      have := fd_one Fd F2
      subst this
      rw [hp, hio, hfs, hx] at ok
      exact ok
  · rintro w H s e s' ⟨_, _, _, _, _, _, _, _, _, _, _, _, h⟩
    exact h
end DS
/-! DS18: showing promises: the simplifier's rules. -/
namespace DS
open PySem PySem.Spec PyProof.Rows L2
theorem ex_some {α : Type} {a : α} {p : α → Prop} : (∃ x, some a = some x ∧ p x) ↔ p a := by
  constructor
  · rintro ⟨x, h, q⟩; cases h; exact q
  · intro h; exact ⟨a, rfl, h⟩
theorem ex_publ {b : Bool} {p : Bool → Prop} : (∃ k, O.pu (.bl b) = O.pu (.bl k) ∧ p k) ↔ p b := by
  constructor
  · rintro ⟨x, h, q⟩; cases h; exact q
  · intro h; exact ⟨b, rfl, h⟩
theorem ex_int {n : Int} {p : Int → Prop} : (∃ k, D.int n = D.int k ∧ p k) ↔ p n := by
  constructor
  · rintro ⟨x, h, q⟩; cases h; exact q
  · intro h; exact ⟨n, rfl, h⟩
theorem ex_int2 {β : Type} {n : Int} {p : Int → β → Prop} : (∃ k j, D.int n = D.int k ∧ p k j) ↔ ∃ j, p n j := by
  constructor
  · rintro ⟨x, j, h, q⟩; cases h; exact ⟨j, q⟩
  · rintro ⟨j, h⟩; exact ⟨n, j, rfl, h⟩
theorem ex_tup {n : List D} {p : List D → Prop} : (∃ k, D.tup n = D.tup k ∧ p k) ↔ p n := by
  constructor
  · rintro ⟨x, h, q⟩; cases h; exact q
  · intro h; exact ⟨n, rfl, h⟩
theorem ex_cons {α : Type} {a : α} {l : List α} {p : α → List α → Prop} : (∃ d r, a :: l = d :: r ∧ p d r) ↔ p a l := by
  constructor
  · rintro ⟨d, r, h, q⟩; cases h; exact q
  · intro h; exact ⟨a, l, rfl, h⟩
theorem ex_one {α : Type} {a : α} {p : α → Prop} : (∃ d, [a] = [d] ∧ p d) ↔ p a := by
  constructor
  · rintro ⟨d, h, q⟩; cases h; exact q
  · intro h; exact ⟨a, rfl, h⟩
theorem s_dep1 {x : Str} : ((NestedKey.text x).depth ≤ 8) ↔ True := by simp [NestedKey.depth]
theorem s_dep2 {x : Int} : ((NestedKey.num x).depth ≤ 8) ↔ True := by simp [NestedKey.depth]
theorem s_dep3 : (NestedKey.none.depth ≤ 8) ↔ True := by simp [NestedKey.depth]
theorem s_key1 {x : Str} : D.key (.str x) = some (.text x) := by simp [D.key]
theorem s_key2 {x : Int} : D.key (.int x) = some (.num x) := by simp [D.key]
theorem s_key3 : D.key .non = some .none := by simp [D.key]
section
variable {K : O → Prop} {a b : Int} {x y : Str} {xs ys : List D} {kvs : List (D × D)} {d : D} {e : Ev} {i : Nat} {r : List Av} {o : O} {k : Bool}
theorem s_add1 : addW [.int a, .int b] K = K (.pu (.int (a + b))) := rfl
theorem s_add2 : addW [.str x, .str y] K = (x.length + y.length ≤ sizeLine ∧ K (.pu (.str (x ++ y)))) := rfl
theorem s_add3 : addW [.lst xs, .lst ys] K = (xs.length + ys.length ≤ sizeLine ∧ K (.fl (xs ++ ys))) := rfl
theorem s_add4 : addW [.tup xs, .tup ys] K = (xs.length + ys.length ≤ sizeLine ∧ K (.pu (.tup (xs ++ ys)))) := rfl
theorem s_sub : subW [.int a, .int b] K = K (.pu (.int (a - b))) := rfl
theorem s_mul1 : mulW [.int a, .int b] K = (CMulW a b ∧ K (.pu (.int (a * b)))) := rfl
theorem s_mul2 : mulW [.lst xs, .int a] K = ((-(2 ^ 63) ≤ a ∧ a < 2 ^ 63 ∧ xs.length * a.toNat ≤ sizeLine) ∧ K (.fl (List.replicate a.toNat xs).flatten)) := rfl
theorem s_fdiv : fdivW [.int a, .int b] K = (CDivW a b ∧ K (.pu (.int (a / b)))) := rfl
theorem s_mod : modW [.int a, .int b] K = (0 < b ∧ K (.pu (.int (a % b)))) := rfl
theorem s_pow : powW [.int a, .int b] K = ((0 ≤ b ∧ (Builtin.Int.intBits a : Int) * b ≤ 2 ^ 27) ∧ K (.pu (.int (a ^ b.toNat)))) := rfl
theorem s_neg : negW [.int a] K = K (.pu (.int (-a))) := rfl
theorem s_cmp1 {f : Int → Int → Bool} {g : Str → Str → Bool} : cmpIW f g [.int a, .int b] K = K (.pu (.bl (f a b))) := rfl
theorem s_cmp2 {f : Int → Int → Bool} {g : Str → Str → Bool} : cmpIW f g [.str x, .str y] K = K (.pu (.bl (g x y))) := rfl
theorem s_eq {d1 d2 : D} : eqW k [d1, d2] K = (cmpOk d1 d2 ∧ K (.pu (.bl (deq d1 d2 == k)))) := rfl
theorem s_isN : isNW k [d] K = (noVal d = true ∧ K (.pu (.bl (isNon d == k)))) := rfl
theorem s_in1 : innW k [d, .lst ys] K = ((∀ y ∈ ys, cmpOk y d) ∧ K (.pu (.bl (ys.any (fun y => deq y d) == k)))) := rfl
theorem s_in2 : innW k [d, .tup ys] K = ((∀ y ∈ ys, cmpOk y d) ∧ K (.pu (.bl (ys.any (fun y => deq y d) == k)))) := rfl
theorem s_in3 : innW k [d, .dct kvs] K = (∃ q, D.key d = some q ∧ q.depth ≤ 8 ∧ K (.pu (.bl ((dget kvs q).isSome == k)))) := rfl
theorem s_in4 : innW k [.str x, .str y] K = K (.pu (.bl ((!(Builtin.Str.occurrences y x 0 y.length 1).isEmpty) == k))) := rfl
theorem s_idx1 : idxW [.lst xs, .int a] K = (∃ d, atI xs a = some d ∧ K (.pu d)) := rfl
theorem s_idx2 : idxW [.tup xs, .int a] K = (∃ d, atI xs a = some d ∧ K (.pu d)) := rfl
theorem s_idx3 : idxW [.str x, .int a] K = (x.length ≤ sizeLine ∧ ∃ c, atI x.cps.toList a = some c ∧ K (.pu (.str ⟨#[c]⟩))) := rfl
theorem s_idx4 : idxW [.dct kvs, d] K = (∃ k, D.key d = some k ∧ k.depth ≤ 8 ∧ ∃ v, dget kvs k = some v ∧ K (.pu v)) := by
  have e : idxW [.dct kvs, d] K = (∃ k v, D.key d = some k ∧ k.depth ≤ 8 ∧ dget kvs k = some v ∧ K (.pu v)) := by cases d <;> rfl
  rw [e]
  exact propext ⟨fun ⟨k, v, a, b, c⟩ => ⟨k, a, b, v, c⟩, fun ⟨k, a, b, v, c⟩ => ⟨k, v, a, b, c⟩⟩
theorem s_slc1 {l u : Option Int} : slcW (.lst xs) l u K = K (.fl (cutL xs l u)) := rfl
theorem s_slc2 {l u : Option Int} : slcW (.scr xs) l u K = K (.fl (cutL xs l u)) := rfl
theorem s_slc3 {l u : Option Int} : slcW (.tup xs) l u K = K (.pu (.tup (cutL xs l u))) := rfl
theorem s_slc4 {l u : Option Int} : slcW (.str x) l u K = (x.length ≤ sizeLine ∧ K (.pu (.str (cutS x l u)))) := rfl
theorem s_revt : revW [.tup xs] K = K (.pu (.tup xs.reverse)) := rfl
theorem s_rev : revW [.lst xs] K = K (.fl xs.reverse) := rfl
theorem s_len1 : lenW [.lst xs] K = K (.pu (.int xs.length)) := rfl
theorem s_len2 : lenW [.tup xs] K = K (.pu (.int xs.length)) := rfl
theorem s_len3 : lenW [.dct kvs] K = K (.pu (.int kvs.length)) := rfl
theorem s_len4 : lenW [.str x] K = (x.length ≤ sizeLine ∧ K (.pu (.int x.length))) := rfl
theorem s_len5 : lenW [.scr xs] K = K (.pu (.int xs.length)) := rfl
theorem s_list1 : listW [.lst xs] K = K (.fl xs) := rfl
theorem s_list2 : listW [.tup xs] K = K (.fl xs) := rfl
theorem s_list3 : listW [.dct kvs] K = K (.fl (kvs.map (·.1))) := rfl
theorem s_tuple1 : tupleW [.lst xs] K = K (.pu (.tup xs)) := rfl
theorem s_tuple2 : tupleW [.tup xs] K = K (.pu (.tup xs)) := rfl
theorem s_dict1 : dictW [.dct kvs] K = (leafKeys kvs = true ∧ K (.fd kvs)) := rfl
theorem s_dict2 : dictW [.lst xs] K = pairsW xs [] fun kvs => K (.fd kvs) := rfl
theorem s_max2 : max2W [.int a, .int b] K = K (.pu (.int (if b > a then b else a))) := rfl
theorem s_min2 : min2W [.int a, .int b] K = K (.pu (.int (if b < a then b else a))) := rfl
theorem s_abs : absW [.int a] K = K (.pu (.int (if a < 0 then -a else a))) := rfl
theorem s_isi {T : List String} : isiW T [d] K = (plainTy d = true ∧ K (.pu (.bl (T.any (isTy d))))) := rfl
theorem s_sum : sumW [.lst xs] K = ∃ ns, intsOf xs = some ns ∧ K (.pu (.int ns.sum)) := rfl
theorem s_join : joinW [.str x, .lst xs] K = ∃ ys, strsOf xs = some ys ∧ (ys.map (·.length)).sum + ys.length * x.length ≤ 16777216 ∧ K (.pu (.str (Txt.join x ys))) := rfl
theorem s_upper : upperW [.str x] K = (x.length ≤ 5592405 ∧ K (.pu (.str (Txt.upper x)))) := rfl
theorem s_items : itemsW [.dct kvs] K = (leafKeys kvs = true ∧ K (.fl (kvs.map fun p => .tup [p.1, p.2]))) := rfl
theorem s_vals : valsW [.dct kvs] K = K (.fl (kvs.map (·.2))) := rfl
theorem s_all {f : List Bool → Bool} : allW f [.lst xs] K = ∃ bs, boolsOf xs = some bs ∧ K (.pu (.bl (f bs))) := rfl
theorem s_str1 : strW [.int a] K = (a.natAbs.log2 < 1920 ∧ K (.pu (.str (toString a)))) := rfl
theorem s_str2 : strW [.str x] K = K (.pu (.str x)) := rfl
theorem s_str3 : strW [.bl k] K = K (.pu (.str (if k = true then "True" else "False"))) := rfl
theorem s_int1 : intW [.int a] K = K (.pu (.int a)) := rfl
theorem s_int2 : intW [.bl k] K = K (.pu (.int (if k then 1 else 0))) := rfl
theorem s_get1 : get1W [.dct kvs, d] K = ∃ k, D.key d = some k ∧ k.depth ≤ 8 ∧ K (.pu ((dget kvs k).getD .non)) := rfl
theorem s_get2 {d2 : D} : get2W [.dct kvs, d, d2] K = (stay d2 = true ∧ ∃ k, D.key d = some k ∧ k.depth ≤ 8 ∧ K (.pu ((dget kvs k).getD d2))) := rfl
theorem s_dct0 : dctW [] K = K (.fd []) := rfl
theorem s_fz1 : (O.pu d).fz = d := rfl
theorem s_fz2 : (O.fl xs).fz = .lst xs := rfl
theorem s_fz3 : (O.fd kvs).fz = .dct kvs := rfl
theorem s_bf1 : bfz (.pu d) = some d := rfl
theorem s_bf2 : bfz (.fl xs) = some (.lst xs) := rfl
theorem s_bf3 : bfz (.fd kvs) = some (.dct kvs) := rfl
theorem s_tr0 : truD .non = some false := rfl
theorem s_tr1 : truD (.bl k) = some k := rfl
theorem s_tr2 : truD (.int a) = some (a != 0) := rfl
theorem s_tr3 : truD (.lst xs) = some (!xs.isEmpty) := rfl
theorem s_tr4 : truD (.scr xs) = some (!xs.isEmpty) := rfl
theorem s_tr5 : truD (.tup xs) = some (!xs.isEmpty) := rfl
theorem s_tr6 : truD (.dct kvs) = some (!kvs.isEmpty) := rfl
theorem s_av0 : avD [] e = some [] := rfl
theorem s_av1 : avD (.v o :: r) e = (avD r e).map (o.fz :: ·) := rfl
theorem s_av2 (h : e[i]? = some (some o)) (hb : bfz o = some d) : avD (.io i :: r) e = (avD r e).map (d :: ·) := by
  simp only [avD, h, hb]
theorem s_ag0 : avArgs [] e = some [] := rfl
theorem s_ag1 : avArgs (.v o :: r) e = (avArgs r e).map (.pu o.fz :: ·) := rfl
theorem s_ag2 (h : e[i]? = some (some o)) : avArgs (.io i :: r) e = (avArgs r e).map (o :: ·) := by
  simp only [avArgs, h]
theorem s_ty1 : tyNm (.str x) = "str" := rfl
theorem s_ty2 : tyNm (.lst xs) = "list" := rfl
theorem s_ty3 : tyNm (.dct kvs) = "dict" := rfl
theorem s_ix0 {n : Nat} : ixN (n + 1) 0 = some 0 := by unfold ixN; simp
theorem s_at0 : atI (d :: xs) 0 = some d := atI_nat (j := 0) rfl
theorem s_at20 {a b : D} : atI [a, b] 0 = some a := rfl
theorem s_at21 {a b : D} : atI [a, b] 1 = some b := rfl
theorem s_at30 {a b c : D} : atI [a, b, c] 0 = some a := rfl
theorem s_at31 {a b c : D} : atI [a, b, c] 1 = some b := rfl
theorem s_at32 {a b c : D} : atI [a, b, c] 2 = some c := rfl
theorem s_ot0 : outsOf [] e = some [] := rfl
theorem s_ot1 {is : List Nat} (h : e[i]? = some (some o)) : outsOf (i :: is) e = (outsOf is e).map (o :: ·) := by simp only [outsOf, h]
theorem s_sq1 {K : List D → Prop} : srcW .seq [.lst xs] K = K xs := rfl
theorem s_sq2 {K : List D → Prop} : srcW .seq [.tup xs] K = K xs := rfl
theorem s_sq3 {K : List D → Prop} : srcW .seq [.str x] K = K (x.cps.toList.map fun c => .str ⟨#[c]⟩) := rfl
theorem s_sq4 {K : List D → Prop} : srcW .seq [.dct kvs] K = K (kvs.map (·.1)) := rfl
theorem s_rg1 {K : List D → Prop} : srcW .rng [.int a] K = ((-(2 ^ 62) ≤ a ∧ a < 2 ^ 62) ∧ K ((List.range a.toNat).map fun (i : Nat) => .int (0 + (i : Int)))) := rfl
theorem s_rg2 {K : List D → Prop} : srcW .rng [.int a, .int b] K = ((-(2 ^ 62) ≤ a ∧ a < 2 ^ 62 ∧ -(2 ^ 62) ≤ b ∧ b < 2 ^ 62) ∧ K ((List.range (b - a).toNat).map fun (n : Nat) => .int (a + (n : Int)))) := rfl
theorem s_en {K : List D → Prop} : srcW .enm [.lst xs] K = K (xs.zipIdx.map fun p => .tup [.int (p.2 : Int), p.1]) := rfl
theorem s_it {K : List D → Prop} : srcW .itm [.dct kvs] K = K (kvs.map fun p => .tup [p.1, p.2]) := rfl
theorem s_vl {K : List D → Prop} : srcW .vals [.dct kvs] K = K (kvs.map (·.2)) := rfl
end
end DS
/-! DS19: the laws' own helpers: draws. -/
open PySem PySem.Spec PyProof.Rows L2 DS
namespace DS
/-- the state of the draws: at most n were made -/
def Stt (n : Nat) (s : List D) : Prop := ∃ a b c : Int, s = [.int a, .int b, .int c] ∧ 0 ≤ c ∧ c ≤ n
def fDraw : Fn := ⟨3, 2, [0], [.ifs (.op .gt [.op .idx [.io 0, .con (.int 0)], .con (.int 0)]) [.set 2 (.op .mod [.op .idx [.io 0, .con (.int 0)], .io 1]),
    .sti 0 (.con (.int 0)) (.op .fdiv [.op .idx [.io 0, .con (.int 0)], .io 1]),
    .ret (.mov 2)] [],
    .sti 0 (.con (.int 2)) (.op .add [.op .idx [.io 0, .con (.int 2)], .con (.int 1)]),
    .set 2 (.op .add [.op .mod [.op .idx [.io 0, .con (.int 1)], .con (.int 2147483629)], .op .mul [.con (.int 104729), .op .idx [.io 0, .con (.int 2)]]]),
    .set 2 (.op .mul [.io 2, .op .add [.op .add [.op .mod [.op .idx [.io 0, .con (.int 1)], .con (.int 2147483587)], .op .mul [.op .mul [.con (.int 7919), .op .idx [.io 0, .con (.int 2)]], .op .idx [.io 0, .con (.int 2)]]], .con (.int 11)]]),
    .ret (.op .mod [.op .fdiv [.op .mod [.op .pow [.io 2, .con (.int 3)], .con (.int 2147483647)], .con (.int 11)], .io 1])]⟩
def fsDraw : FS := fun args K R => ∃ s n z, args = [.fl s, .pu (.int z)] ∧ Stt n s ∧ n < 10 ^ 15 ∧ 0 < z ∧ z < 2 ^ 62 ∧ ∀ r s', 0 ≤ r → r < z → Stt (n + 1) s' → K (.pu (.int r)) [.fl s']
theorem at3_0 {a b c : D} : atI [a, b, c] 0 = some a := rfl
theorem at3_1 {a b c : D} : atI [a, b, c] 1 = some b := rfl
theorem at3_2 {a b c : D} : atI [a, b, c] 2 = some c := rfl
theorem ixN3_0 : ixN 3 0 = some 0 := by decide
theorem ixN3_2 : ixN 3 2 = some 2 := by decide
theorem mul_of {i j : Int} {a b : Nat} (ha : i.natAbs < 2 ^ a) (hb : j.natAbs < 2 ^ b) (h0 : 0 < a) (h1 : 0 < b) (h : a + b ≤ 1000000) : CMulW i j := wide_mul ha hb h0 h1 h
theorem div_of {i j : Int} (h : 0 < j) (h2 : j < 2 ^ 62) : CDivW i j := wide_div (b := 62) h (by omega) (by decide) (by decide)
theorem bits_of {i : Int} {a : Nat} (h : i.natAbs < 2 ^ a) (h0 : 0 < a) : Builtin.Int.intBits i ≤ a := by
  unfold Builtin.Int.intBits
  split
  · omega
  · have := PySem.Flt.log2_lt_of h0 h
    omega
theorem ok_draw {Γ : Gam} : Fn.Ok Γ fDraw fsDraw := by
  rintro args K R ⟨s, n, z, rfl, ⟨a, b, c, rfl, hc, hn⟩, hN, hz, hz2, hk⟩
  refine ⟨rfl, ?_⟩
  unfold fDraw
  simp only [DS.wSs, DS.wS, DS.wE, DS.wEs, DS.wAs, DS.wOI, DS.wCs, DS.asK, DS.tkD, DS.avIos, DS.putOs, DS.setAll, DS.opW, DS.bindT, DS.bindTs, DS.startE, DS.mTy, DS.ex_some, DS.ex_publ, DS.ex_int, DS.ex_int2, DS.ex_tup, DS.s_add1, DS.s_add2, DS.s_add3, DS.s_add4, DS.s_sub, DS.s_mul1, DS.s_mul2, DS.s_fdiv, DS.s_mod, DS.s_pow, DS.s_neg, DS.s_cmp1, DS.s_cmp2, DS.s_eq, DS.s_isN, DS.s_in1, DS.s_in2, DS.s_in3, DS.s_in4, DS.s_idx1, DS.s_idx2, DS.s_idx3, DS.s_idx4, DS.s_slc1, DS.s_slc2, DS.s_slc3, DS.s_slc4, DS.s_rev, DS.s_len1, DS.s_len2, DS.s_len3, DS.s_len4, DS.s_len5, DS.s_list1, DS.s_list2, DS.s_list3, DS.s_tuple1, DS.s_tuple2, DS.s_dict1, DS.s_dict2, DS.s_max2, DS.s_min2, DS.s_abs, DS.s_isi, DS.s_sum, DS.s_join, DS.s_upper, DS.s_items, DS.s_vals, DS.s_all, DS.s_str1, DS.s_str2, DS.s_str3, DS.s_int1, DS.s_int2, DS.s_get1, DS.s_get2, DS.s_dct0, DS.s_fz1, DS.s_fz2, DS.s_fz3, DS.s_bf1, DS.s_bf2, DS.s_bf3, DS.s_tr0, DS.s_tr1, DS.s_tr2, DS.s_tr3, DS.s_tr4, DS.s_tr5, DS.s_tr6, DS.s_av0, DS.s_av1, DS.s_av2, DS.s_ag0, DS.s_ag1, DS.s_ag2, DS.s_ty1, DS.s_ty2, DS.s_ty3, DS.s_ix0, DS.s_at0, DS.ex_cons, DS.s_dep1, DS.s_dep2, DS.s_dep3, DS.s_key1, DS.s_key2, DS.s_key3, DS.s_ot0, DS.ex_one, DS.s_ot1, DS.s_sq1, DS.s_sq2, DS.s_sq3, DS.s_sq4, DS.s_rg1, DS.s_rg2, DS.s_en, DS.s_it, DS.s_vl, List.map_cons, List.map_nil, List.cons_append, List.nil_append, List.length_cons, List.length_nil, List.replicate, Nat.add_one_sub_one, Nat.reduceAdd, Nat.reduceSub, List.append_nil, List.getElem?_cons_zero, List.getElem?_cons_succ, List.set_cons_zero, List.set_cons_succ, Option.map_some, Option.some.injEq, exists_eq_left', exists_eq', exists_eq_left, DS.O.pu.injEq, DS.O.fl.injEq, DS.O.fd.injEq, DS.wipeE, DS.backE, Option.getD_some, Option.getD_none, DS.D.bl.injEq, true_and, and_true, if_true, if_false, reduceCtorEq, Bool.false_eq_true, List.nodup_nil, List.nodup_cons, List.not_mem_nil, not_false_eq_true, exists_const, DS.s_at20, DS.s_at21, DS.s_at30, DS.s_at31, DS.s_at32, DS.s_revt, at3_0, at3_1, at3_2, ixN3_0, ixN3_2, decide_eq_true_eq, gt_iff_lt]
  have hc1 : (c + 1).natAbs < 2 ^ 60 := by omega
  have hm1 : (b % 2147483629 + 104729 * (c + 1)).natAbs < 2 ^ 80 := by omega
  have hm2 : (7919 * (c + 1)).natAbs < 2 ^ 75 := by omega
  have hm3 := wide_lt hm2 hc1
  have hm4 : (b % 2147483587 + 7919 * (c + 1) * (c + 1) + 11).natAbs < 2 ^ 140 := by omega
  have hm5 := wide_lt hm1 hm4
  split
  · rename_i h
    exact ⟨hz, div_of hz hz2, hk _ _ (Int.emod_nonneg _ (by omega)) (Int.emod_lt_of_pos _ hz) ⟨_, _, _, rfl, hc, by omega⟩⟩
  · refine ⟨by decide, mul_of (a := 20) (b := 60) (by decide) hc1 (by decide) (by decide) (by decide), by decide, mul_of (a := 20) (b := 60) (by decide) hc1 (by decide) (by decide) (by decide), mul_of hm2 hc1 (by decide) (by decide) (by decide), mul_of hm1 hm4 (by decide) (by decide) (by decide), ⟨by decide, ?_⟩, by decide, div_of (by decide) (by decide), hz, hk _ _ (Int.emod_nonneg _ (by omega)) (Int.emod_lt_of_pos _ hz) ⟨_, _, _, rfl, by omega, by omega⟩⟩
    have := bits_of hm5 (by decide)
    omega
/-! an element -/
def fPick (d : Nat) : Fn := ⟨2, 2, [0], [.ret (.op .idx [.io 1, .call d [.io 0, .op .len [.io 1]]])]⟩
/-- the elements of a sequence -/
def elts : D → Option (List D)
  | .lst xs => some xs
  | .tup xs => some xs
  | .str z => if z.length ≤ sizeLine then some (z.cps.toList.map fun c => .str ⟨#[c]⟩) else none
  | _ => none
def fsPick : FS := fun args K R => ∃ s n d xs, args = [.fl s, .pu d] ∧ elts d = some xs ∧ 0 < xs.length ∧ xs.length < 2 ^ 30 ∧ Stt n s ∧ n < 10 ^ 15 ∧ ∀ x s', x ∈ xs → Stt (n + 1) s' → K (.pu x) [.fl s']
theorem atI_in {xs : List D} {r : Int} (h0 : 0 ≤ r) (h1 : r < xs.length) (h2 : xs.length < 2 ^ 30) : ∃ x, x ∈ xs ∧ atI xs r = some x := by
  obtain ⟨k, rfl⟩ : ∃ k : Nat, r = k := ⟨r.toNat, by omega⟩
  have hk : k < xs.length := by omega
  exact ⟨xs[k], List.getElem_mem hk, atI_nat (List.getElem?_eq_getElem hk)⟩
theorem ok_pick {Γ : Gam} {d : Nat} (hd : Γ d = fsDraw) : Fn.Ok Γ (fPick d) fsPick := by
  rintro args K R ⟨s, n, dd, xs, rfl, he, h0, h1, hs, hN, hk⟩
  refine ⟨rfl, ?_⟩
  unfold fPick
  unfold elts at he
  split at he
  · cases he
    simp only [DS.wSs, DS.wS, DS.wE, DS.wEs, DS.wAs, DS.wOI, DS.wCs, DS.asK, DS.tkD, DS.avIos, DS.putOs, DS.setAll, DS.opW, DS.bindT, DS.bindTs, DS.startE, DS.mTy, DS.ex_some, DS.ex_publ, DS.ex_int, DS.ex_int2, DS.ex_tup, DS.s_add1, DS.s_add2, DS.s_add3, DS.s_add4, DS.s_sub, DS.s_mul1, DS.s_mul2, DS.s_fdiv, DS.s_mod, DS.s_pow, DS.s_neg, DS.s_cmp1, DS.s_cmp2, DS.s_eq, DS.s_isN, DS.s_in1, DS.s_in2, DS.s_in3, DS.s_in4, DS.s_idx1, DS.s_idx2, DS.s_idx3, DS.s_idx4, DS.s_slc1, DS.s_slc2, DS.s_slc3, DS.s_slc4, DS.s_rev, DS.s_len1, DS.s_len2, DS.s_len3, DS.s_len4, DS.s_len5, DS.s_list1, DS.s_list2, DS.s_list3, DS.s_tuple1, DS.s_tuple2, DS.s_dict1, DS.s_dict2, DS.s_max2, DS.s_min2, DS.s_abs, DS.s_isi, DS.s_sum, DS.s_join, DS.s_upper, DS.s_items, DS.s_vals, DS.s_all, DS.s_str1, DS.s_str2, DS.s_str3, DS.s_int1, DS.s_int2, DS.s_get1, DS.s_get2, DS.s_dct0, DS.s_fz1, DS.s_fz2, DS.s_fz3, DS.s_bf1, DS.s_bf2, DS.s_bf3, DS.s_tr0, DS.s_tr1, DS.s_tr2, DS.s_tr3, DS.s_tr4, DS.s_tr5, DS.s_tr6, DS.s_av0, DS.s_av1, DS.s_av2, DS.s_ag0, DS.s_ag1, DS.s_ag2, DS.s_ty1, DS.s_ty2, DS.s_ty3, DS.s_ix0, DS.s_at0, DS.ex_cons, DS.s_dep1, DS.s_dep2, DS.s_dep3, DS.s_key1, DS.s_key2, DS.s_key3, DS.s_ot0, DS.ex_one, DS.s_ot1, DS.s_sq1, DS.s_sq2, DS.s_sq3, DS.s_sq4, DS.s_rg1, DS.s_rg2, DS.s_en, DS.s_it, DS.s_vl, List.map_cons, List.map_nil, List.cons_append, List.nil_append, List.length_cons, List.length_nil, List.replicate, Nat.add_one_sub_one, Nat.reduceAdd, Nat.reduceSub, List.append_nil, List.getElem?_cons_zero, List.getElem?_cons_succ, List.set_cons_zero, List.set_cons_succ, Option.map_some, Option.some.injEq, exists_eq_left', exists_eq', exists_eq_left, DS.O.pu.injEq, DS.O.fl.injEq, DS.O.fd.injEq, DS.wipeE, DS.backE, Option.getD_some, Option.getD_none, DS.D.bl.injEq, true_and, and_true, if_true, if_false, reduceCtorEq, Bool.false_eq_true, List.nodup_nil, List.nodup_cons, List.not_mem_nil, not_false_eq_true, exists_const, DS.s_at20, DS.s_at21, DS.s_at30, DS.s_at31, DS.s_at32, DS.s_revt, hd]
    refine ⟨s, n, _, rfl, hs, hN, by omega, by omega, fun r s' r0 r1 st => ⟨rfl, ?_⟩⟩
    simp only [DS.wSs, DS.wS, DS.wE, DS.wEs, DS.wAs, DS.wOI, DS.wCs, DS.asK, DS.tkD, DS.avIos, DS.putOs, DS.setAll, DS.opW, DS.bindT, DS.bindTs, DS.startE, DS.mTy, DS.ex_some, DS.ex_publ, DS.ex_int, DS.ex_int2, DS.ex_tup, DS.s_add1, DS.s_add2, DS.s_add3, DS.s_add4, DS.s_sub, DS.s_mul1, DS.s_mul2, DS.s_fdiv, DS.s_mod, DS.s_pow, DS.s_neg, DS.s_cmp1, DS.s_cmp2, DS.s_eq, DS.s_isN, DS.s_in1, DS.s_in2, DS.s_in3, DS.s_in4, DS.s_idx1, DS.s_idx2, DS.s_idx3, DS.s_idx4, DS.s_slc1, DS.s_slc2, DS.s_slc3, DS.s_slc4, DS.s_rev, DS.s_len1, DS.s_len2, DS.s_len3, DS.s_len4, DS.s_len5, DS.s_list1, DS.s_list2, DS.s_list3, DS.s_tuple1, DS.s_tuple2, DS.s_dict1, DS.s_dict2, DS.s_max2, DS.s_min2, DS.s_abs, DS.s_isi, DS.s_sum, DS.s_join, DS.s_upper, DS.s_items, DS.s_vals, DS.s_all, DS.s_str1, DS.s_str2, DS.s_str3, DS.s_int1, DS.s_int2, DS.s_get1, DS.s_get2, DS.s_dct0, DS.s_fz1, DS.s_fz2, DS.s_fz3, DS.s_bf1, DS.s_bf2, DS.s_bf3, DS.s_tr0, DS.s_tr1, DS.s_tr2, DS.s_tr3, DS.s_tr4, DS.s_tr5, DS.s_tr6, DS.s_av0, DS.s_av1, DS.s_av2, DS.s_ag0, DS.s_ag1, DS.s_ag2, DS.s_ty1, DS.s_ty2, DS.s_ty3, DS.s_ix0, DS.s_at0, DS.ex_cons, DS.s_dep1, DS.s_dep2, DS.s_dep3, DS.s_key1, DS.s_key2, DS.s_key3, DS.s_ot0, DS.ex_one, DS.s_ot1, DS.s_sq1, DS.s_sq2, DS.s_sq3, DS.s_sq4, DS.s_rg1, DS.s_rg2, DS.s_en, DS.s_it, DS.s_vl, List.map_cons, List.map_nil, List.cons_append, List.nil_append, List.length_cons, List.length_nil, List.replicate, Nat.add_one_sub_one, Nat.reduceAdd, Nat.reduceSub, List.append_nil, List.getElem?_cons_zero, List.getElem?_cons_succ, List.set_cons_zero, List.set_cons_succ, Option.map_some, Option.some.injEq, exists_eq_left', exists_eq', exists_eq_left, DS.O.pu.injEq, DS.O.fl.injEq, DS.O.fd.injEq, DS.wipeE, DS.backE, Option.getD_some, Option.getD_none, DS.D.bl.injEq, true_and, and_true, if_true, if_false, reduceCtorEq, Bool.false_eq_true, List.nodup_nil, List.nodup_cons, List.not_mem_nil, not_false_eq_true, exists_const, DS.s_at20, DS.s_at21, DS.s_at30, DS.s_at31, DS.s_at32, DS.s_revt]
    obtain ⟨x, hx, e⟩ := atI_in r0 r1 h1
    exact ⟨x, e, hk x s' hx st⟩
  · cases he
    simp only [DS.wSs, DS.wS, DS.wE, DS.wEs, DS.wAs, DS.wOI, DS.wCs, DS.asK, DS.tkD, DS.avIos, DS.putOs, DS.setAll, DS.opW, DS.bindT, DS.bindTs, DS.startE, DS.mTy, DS.ex_some, DS.ex_publ, DS.ex_int, DS.ex_int2, DS.ex_tup, DS.s_add1, DS.s_add2, DS.s_add3, DS.s_add4, DS.s_sub, DS.s_mul1, DS.s_mul2, DS.s_fdiv, DS.s_mod, DS.s_pow, DS.s_neg, DS.s_cmp1, DS.s_cmp2, DS.s_eq, DS.s_isN, DS.s_in1, DS.s_in2, DS.s_in3, DS.s_in4, DS.s_idx1, DS.s_idx2, DS.s_idx3, DS.s_idx4, DS.s_slc1, DS.s_slc2, DS.s_slc3, DS.s_slc4, DS.s_rev, DS.s_len1, DS.s_len2, DS.s_len3, DS.s_len4, DS.s_len5, DS.s_list1, DS.s_list2, DS.s_list3, DS.s_tuple1, DS.s_tuple2, DS.s_dict1, DS.s_dict2, DS.s_max2, DS.s_min2, DS.s_abs, DS.s_isi, DS.s_sum, DS.s_join, DS.s_upper, DS.s_items, DS.s_vals, DS.s_all, DS.s_str1, DS.s_str2, DS.s_str3, DS.s_int1, DS.s_int2, DS.s_get1, DS.s_get2, DS.s_dct0, DS.s_fz1, DS.s_fz2, DS.s_fz3, DS.s_bf1, DS.s_bf2, DS.s_bf3, DS.s_tr0, DS.s_tr1, DS.s_tr2, DS.s_tr3, DS.s_tr4, DS.s_tr5, DS.s_tr6, DS.s_av0, DS.s_av1, DS.s_av2, DS.s_ag0, DS.s_ag1, DS.s_ag2, DS.s_ty1, DS.s_ty2, DS.s_ty3, DS.s_ix0, DS.s_at0, DS.ex_cons, DS.s_dep1, DS.s_dep2, DS.s_dep3, DS.s_key1, DS.s_key2, DS.s_key3, DS.s_ot0, DS.ex_one, DS.s_ot1, DS.s_sq1, DS.s_sq2, DS.s_sq3, DS.s_sq4, DS.s_rg1, DS.s_rg2, DS.s_en, DS.s_it, DS.s_vl, List.map_cons, List.map_nil, List.cons_append, List.nil_append, List.length_cons, List.length_nil, List.replicate, Nat.add_one_sub_one, Nat.reduceAdd, Nat.reduceSub, List.append_nil, List.getElem?_cons_zero, List.getElem?_cons_succ, List.set_cons_zero, List.set_cons_succ, Option.map_some, Option.some.injEq, exists_eq_left', exists_eq', exists_eq_left, DS.O.pu.injEq, DS.O.fl.injEq, DS.O.fd.injEq, DS.wipeE, DS.backE, Option.getD_some, Option.getD_none, DS.D.bl.injEq, true_and, and_true, if_true, if_false, reduceCtorEq, Bool.false_eq_true, List.nodup_nil, List.nodup_cons, List.not_mem_nil, not_false_eq_true, exists_const, DS.s_at20, DS.s_at21, DS.s_at30, DS.s_at31, DS.s_at32, DS.s_revt, hd]
    refine ⟨s, n, _, rfl, hs, hN, by omega, by omega, fun r s' r0 r1 st => ⟨rfl, ?_⟩⟩
    simp only [DS.wSs, DS.wS, DS.wE, DS.wEs, DS.wAs, DS.wOI, DS.wCs, DS.asK, DS.tkD, DS.avIos, DS.putOs, DS.setAll, DS.opW, DS.bindT, DS.bindTs, DS.startE, DS.mTy, DS.ex_some, DS.ex_publ, DS.ex_int, DS.ex_int2, DS.ex_tup, DS.s_add1, DS.s_add2, DS.s_add3, DS.s_add4, DS.s_sub, DS.s_mul1, DS.s_mul2, DS.s_fdiv, DS.s_mod, DS.s_pow, DS.s_neg, DS.s_cmp1, DS.s_cmp2, DS.s_eq, DS.s_isN, DS.s_in1, DS.s_in2, DS.s_in3, DS.s_in4, DS.s_idx1, DS.s_idx2, DS.s_idx3, DS.s_idx4, DS.s_slc1, DS.s_slc2, DS.s_slc3, DS.s_slc4, DS.s_rev, DS.s_len1, DS.s_len2, DS.s_len3, DS.s_len4, DS.s_len5, DS.s_list1, DS.s_list2, DS.s_list3, DS.s_tuple1, DS.s_tuple2, DS.s_dict1, DS.s_dict2, DS.s_max2, DS.s_min2, DS.s_abs, DS.s_isi, DS.s_sum, DS.s_join, DS.s_upper, DS.s_items, DS.s_vals, DS.s_all, DS.s_str1, DS.s_str2, DS.s_str3, DS.s_int1, DS.s_int2, DS.s_get1, DS.s_get2, DS.s_dct0, DS.s_fz1, DS.s_fz2, DS.s_fz3, DS.s_bf1, DS.s_bf2, DS.s_bf3, DS.s_tr0, DS.s_tr1, DS.s_tr2, DS.s_tr3, DS.s_tr4, DS.s_tr5, DS.s_tr6, DS.s_av0, DS.s_av1, DS.s_av2, DS.s_ag0, DS.s_ag1, DS.s_ag2, DS.s_ty1, DS.s_ty2, DS.s_ty3, DS.s_ix0, DS.s_at0, DS.ex_cons, DS.s_dep1, DS.s_dep2, DS.s_dep3, DS.s_key1, DS.s_key2, DS.s_key3, DS.s_ot0, DS.ex_one, DS.s_ot1, DS.s_sq1, DS.s_sq2, DS.s_sq3, DS.s_sq4, DS.s_rg1, DS.s_rg2, DS.s_en, DS.s_it, DS.s_vl, List.map_cons, List.map_nil, List.cons_append, List.nil_append, List.length_cons, List.length_nil, List.replicate, Nat.add_one_sub_one, Nat.reduceAdd, Nat.reduceSub, List.append_nil, List.getElem?_cons_zero, List.getElem?_cons_succ, List.set_cons_zero, List.set_cons_succ, Option.map_some, Option.some.injEq, exists_eq_left', exists_eq', exists_eq_left, DS.O.pu.injEq, DS.O.fl.injEq, DS.O.fd.injEq, DS.wipeE, DS.backE, Option.getD_some, Option.getD_none, DS.D.bl.injEq, true_and, and_true, if_true, if_false, reduceCtorEq, Bool.false_eq_true, List.nodup_nil, List.nodup_cons, List.not_mem_nil, not_false_eq_true, exists_const, DS.s_at20, DS.s_at21, DS.s_at30, DS.s_at31, DS.s_at32, DS.s_revt]
    obtain ⟨x, hx, e⟩ := atI_in r0 r1 h1
    exact ⟨x, e, hk x s' hx st⟩
  · rename_i z
    split at he
    · rename_i hz
      cases he
      have hl : z.length = (z.cps.toList.map fun c => D.str ⟨#[c]⟩).length := by simp [Str.length]
      simp only [DS.wSs, DS.wS, DS.wE, DS.wEs, DS.wAs, DS.wOI, DS.wCs, DS.asK, DS.tkD, DS.avIos, DS.putOs, DS.setAll, DS.opW, DS.bindT, DS.bindTs, DS.startE, DS.mTy, DS.ex_some, DS.ex_publ, DS.ex_int, DS.ex_int2, DS.ex_tup, DS.s_add1, DS.s_add2, DS.s_add3, DS.s_add4, DS.s_sub, DS.s_mul1, DS.s_mul2, DS.s_fdiv, DS.s_mod, DS.s_pow, DS.s_neg, DS.s_cmp1, DS.s_cmp2, DS.s_eq, DS.s_isN, DS.s_in1, DS.s_in2, DS.s_in3, DS.s_in4, DS.s_idx1, DS.s_idx2, DS.s_idx3, DS.s_idx4, DS.s_slc1, DS.s_slc2, DS.s_slc3, DS.s_slc4, DS.s_rev, DS.s_len1, DS.s_len2, DS.s_len3, DS.s_len4, DS.s_len5, DS.s_list1, DS.s_list2, DS.s_list3, DS.s_tuple1, DS.s_tuple2, DS.s_dict1, DS.s_dict2, DS.s_max2, DS.s_min2, DS.s_abs, DS.s_isi, DS.s_sum, DS.s_join, DS.s_upper, DS.s_items, DS.s_vals, DS.s_all, DS.s_str1, DS.s_str2, DS.s_str3, DS.s_int1, DS.s_int2, DS.s_get1, DS.s_get2, DS.s_dct0, DS.s_fz1, DS.s_fz2, DS.s_fz3, DS.s_bf1, DS.s_bf2, DS.s_bf3, DS.s_tr0, DS.s_tr1, DS.s_tr2, DS.s_tr3, DS.s_tr4, DS.s_tr5, DS.s_tr6, DS.s_av0, DS.s_av1, DS.s_av2, DS.s_ag0, DS.s_ag1, DS.s_ag2, DS.s_ty1, DS.s_ty2, DS.s_ty3, DS.s_ix0, DS.s_at0, DS.ex_cons, DS.s_dep1, DS.s_dep2, DS.s_dep3, DS.s_key1, DS.s_key2, DS.s_key3, DS.s_ot0, DS.ex_one, DS.s_ot1, DS.s_sq1, DS.s_sq2, DS.s_sq3, DS.s_sq4, DS.s_rg1, DS.s_rg2, DS.s_en, DS.s_it, DS.s_vl, List.map_cons, List.map_nil, List.cons_append, List.nil_append, List.length_cons, List.length_nil, List.replicate, Nat.add_one_sub_one, Nat.reduceAdd, Nat.reduceSub, List.append_nil, List.getElem?_cons_zero, List.getElem?_cons_succ, List.set_cons_zero, List.set_cons_succ, Option.map_some, Option.some.injEq, exists_eq_left', exists_eq', exists_eq_left, DS.O.pu.injEq, DS.O.fl.injEq, DS.O.fd.injEq, DS.wipeE, DS.backE, Option.getD_some, Option.getD_none, DS.D.bl.injEq, true_and, and_true, if_true, if_false, reduceCtorEq, Bool.false_eq_true, List.nodup_nil, List.nodup_cons, List.not_mem_nil, not_false_eq_true, exists_const, DS.s_at20, DS.s_at21, DS.s_at30, DS.s_at31, DS.s_at32, DS.s_revt, hd]
      refine ⟨hz, s, n, _, rfl, hs, hN, by omega, by omega, fun r s' r0 r1 st => ⟨rfl, ?_⟩⟩
      simp only [DS.wSs, DS.wS, DS.wE, DS.wEs, DS.wAs, DS.wOI, DS.wCs, DS.asK, DS.tkD, DS.avIos, DS.putOs, DS.setAll, DS.opW, DS.bindT, DS.bindTs, DS.startE, DS.mTy, DS.ex_some, DS.ex_publ, DS.ex_int, DS.ex_int2, DS.ex_tup, DS.s_add1, DS.s_add2, DS.s_add3, DS.s_add4, DS.s_sub, DS.s_mul1, DS.s_mul2, DS.s_fdiv, DS.s_mod, DS.s_pow, DS.s_neg, DS.s_cmp1, DS.s_cmp2, DS.s_eq, DS.s_isN, DS.s_in1, DS.s_in2, DS.s_in3, DS.s_in4, DS.s_idx1, DS.s_idx2, DS.s_idx3, DS.s_idx4, DS.s_slc1, DS.s_slc2, DS.s_slc3, DS.s_slc4, DS.s_rev, DS.s_len1, DS.s_len2, DS.s_len3, DS.s_len4, DS.s_len5, DS.s_list1, DS.s_list2, DS.s_list3, DS.s_tuple1, DS.s_tuple2, DS.s_dict1, DS.s_dict2, DS.s_max2, DS.s_min2, DS.s_abs, DS.s_isi, DS.s_sum, DS.s_join, DS.s_upper, DS.s_items, DS.s_vals, DS.s_all, DS.s_str1, DS.s_str2, DS.s_str3, DS.s_int1, DS.s_int2, DS.s_get1, DS.s_get2, DS.s_dct0, DS.s_fz1, DS.s_fz2, DS.s_fz3, DS.s_bf1, DS.s_bf2, DS.s_bf3, DS.s_tr0, DS.s_tr1, DS.s_tr2, DS.s_tr3, DS.s_tr4, DS.s_tr5, DS.s_tr6, DS.s_av0, DS.s_av1, DS.s_av2, DS.s_ag0, DS.s_ag1, DS.s_ag2, DS.s_ty1, DS.s_ty2, DS.s_ty3, DS.s_ix0, DS.s_at0, DS.ex_cons, DS.s_dep1, DS.s_dep2, DS.s_dep3, DS.s_key1, DS.s_key2, DS.s_key3, DS.s_ot0, DS.ex_one, DS.s_ot1, DS.s_sq1, DS.s_sq2, DS.s_sq3, DS.s_sq4, DS.s_rg1, DS.s_rg2, DS.s_en, DS.s_it, DS.s_vl, List.map_cons, List.map_nil, List.cons_append, List.nil_append, List.length_cons, List.length_nil, List.replicate, Nat.add_one_sub_one, Nat.reduceAdd, Nat.reduceSub, List.append_nil, List.getElem?_cons_zero, List.getElem?_cons_succ, List.set_cons_zero, List.set_cons_succ, Option.map_some, Option.some.injEq, exists_eq_left', exists_eq', exists_eq_left, DS.O.pu.injEq, DS.O.fl.injEq, DS.O.fd.injEq, DS.wipeE, DS.backE, Option.getD_some, Option.getD_none, DS.D.bl.injEq, true_and, and_true, if_true, if_false, reduceCtorEq, Bool.false_eq_true, List.nodup_nil, List.nodup_cons, List.not_mem_nil, not_false_eq_true, exists_const, DS.s_at20, DS.s_at21, DS.s_at30, DS.s_at31, DS.s_at32, DS.s_revt]
      obtain ⟨k, rfl⟩ : ∃ k : Nat, r = k := ⟨r.toNat, by omega⟩
      have hk2 : k < z.cps.toList.length := by simp at h0 r1 hl ⊢; omega
      refine ⟨hz, z.cps.toList[k], atI_nat (List.getElem?_eq_getElem hk2), hk _ _ (List.mem_map.mpr ⟨_, List.getElem_mem hk2, rfl⟩) st⟩
    · cases he
  · cases he
end DS
/-! DS20: loops by an invariant; texts; names. -/
namespace DS
open PySem PySem.Spec PyProof.Rows L2
theorem loopW_of {f : D → Ev → KS → Prop} {K : KS} (P : List D → Ev → Prop) (hend : ∀ e, P [] e → K.nx e) (hstep : ∀ d ds e (L : Ev → Prop), P (d :: ds) e → (∀ e1, P ds e1 → L e1) → f d e ⟨L, K.rt, K.nx, L⟩) : ∀ items e, P items e → loopW f items e K
  | [], e, h => hend e h
  | d :: ds, e, h => hstep d ds e _ h fun e1 h1 => loopW_of P hend hstep ds e1 h1
theorem compW_of {f : D → Ev → (Option D → Ev → Prop) → Prop} {K : List D → Ev → Prop} (P : List D → List D → Ev → Prop) (hend : ∀ acc e, P [] acc e → K acc e)
    (hstep : ∀ d ds acc e (L : Option D → Ev → Prop), P (d :: ds) acc e → (∀ e1, P ds acc e1 → L none e1) → (∀ x e1, acc.length < sizeLine → P ds (acc ++ [x]) e1 → L (some x) e1) → f d e L) : ∀ items acc e, P items acc e → compW f items acc e K
  | [], acc, e, h => hend acc e h
  | d :: ds, acc, e, h => by
    unfold compW
    refine hstep d ds acc e _ h (fun e1 h1 => compW_of P hend hstep ds acc e1 h1) fun x e1 hz h1 => ⟨hz, compW_of P hend hstep ds (acc ++ [x]) e1 h1⟩
theorem elts_str {z : Str} (h : z.length ≤ sizeLine) : elts (.str z) = some (z.cps.toList.map fun c => .str ⟨#[c]⟩) := by unfold elts; exact if_pos h
/-! texts by their codes -/
abbrev cds (z : Str) : List Nat := z.cps.toList
theorem cds_app (x y : Str) : cds (x ++ y) = cds x ++ cds y := by
  show (x.cps ++ y.cps).toList = _
  simp
theorem cds_len (x : Str) : (cds x).length = x.length := by simp [cds, Str.length]
theorem cds_inj {x y : Str} (h : cds x = cds y) : x = y := by
  cases x; cases y
  simp only [Str.mk.injEq]
  exact Array.ext' h
theorem cds_cut (z : Str) (n : Nat) : cds (cutS z none (some (n : Int))) = (cds z).take n := by
  unfold cutS cds
  rw [HT.sIx_none, HT.sIx_nat, List.drop_zero, Nat.sub_zero]
  simp only [List.take_eq_take_iff]
  simp [Str.length, Nat.min_comm]
theorem cds_join (ys : List Str) : cds (Txt.join ⟨#[]⟩ ys) = (ys.map cds).flatten := by
  rw [show Txt.join ⟨#[]⟩ ys = Str.join ⟨#[]⟩ ys from PySem.StrLaws.glued_eq_join _ _]
  induction ys with
  | nil => rfl
  | cons y ys ih =>
    cases ys with
    | nil => simp [Str.join]
    | cons z zs =>
      show cds (y ++ ⟨#[]⟩ ++ Str.join ⟨#[]⟩ (z :: zs)) = _
      rw [cds_app, cds_app, ih]
      simp
theorem empty_str : (Str.ofString "" : Str) = ⟨#[]⟩ := by decide
/-- one to six small letters -/
def IsNm (x : Str) : Prop := 1 ≤ x.length ∧ x.length ≤ 6 ∧ ∀ c ∈ cds x, 97 ≤ c ∧ c ≤ 122
def isNmB (x : Str) : Bool := decide (1 ≤ x.length) && decide (x.length ≤ 6) && (cds x).all fun c => decide (97 ≤ c) && decide (c ≤ 122)
theorem isNmB_iff {x : Str} : isNmB x = true ↔ IsNm x := by
  unfold isNmB IsNm
  simp only [Bool.and_eq_true, decide_eq_true_eq, List.all_eq_true]
  exact ⟨fun h => ⟨h.1.1, h.1.2, h.2⟩, fun h => ⟨⟨h.1, h.2.1⟩, h.2.2⟩⟩
/-- a list that has more different elements than another has one that is not in it -/
theorem pigeon {α : Type} [DecidableEq α] : ∀ (xs ys : List α), xs.Nodup → ys.length < xs.length → ∃ x ∈ xs, x ∉ ys
  | xs, [], _, h => by
    cases xs with
    | nil => simp at h
    | cons x xs => exact ⟨x, List.mem_cons_self .., by simp⟩
  | xs, y :: ys, hn, h => by
    obtain ⟨x, hx, hy⟩ := pigeon (xs.erase y) ys (hn.erase y) (by
      have := List.length_erase (a := y) (l := xs)
      simp only [List.length_cons] at h
      split at this <;> omega)
    refine ⟨x, List.mem_of_mem_erase hx, fun hm => ?_⟩
    rcases List.mem_cons.mp hm with rfl | hm
    · exact (List.Nodup.not_mem_erase hn) hx
    · exact hy hm
def words : List String := ["new", "free", "plan", "order", "low", "high", "done", "limit", "none", "to", "ok", "open"]
def alph : Str := "abcdefghijklmnopqrstuvwxyz"
theorem alph_len : alph.length = 26 := by decide
theorem alph_cds : cds alph = (List.range 26).map (97 + ·) := by decide
/-- a word that is there already gets another end; it is put behind the others -/
def nmTail : List S := [.ifs (.op .inn [.io 5, .io 4]) [.set 5 (.op .idx [.comp .seq [.con (.str "abcdefghijklmnopqrstuvwxyz")] (.n 7) [.op .nin [.op .add [.slc (.io 5) [] [.con (.int 5)], .io 7], .io 4]] (.op .add [.slc (.io 5) [] [.con (.int 5)], .io 7]) [7], .con (.int 0)])] [],
    .app 4 (.var 5)]
def nmBody (d p : Nat) : List S := .set 5 (.call p [.io 0, .var 3]) ::
    .ifs (.op .gt [.call d [.io 0, .con (.int 3)], .con (.int 0)]) [.set 5 (.mth .join (.con (.str "")) [.comp .rng [.op .add [.con (.int 1), .call d [.io 0, .con (.int 6)]]] (.n 6) [] (.call p [.io 0, .con (.str "abcdefghijklmnopqrstuvwxyz")]) [6]])] [] ::
    nmTail
def fNames (d p : Nat) : Fn := ⟨8, 2, [0], [.par [3, 4] [.op .lst [.con (.str "new"), .con (.str "free"), .con (.str "plan"), .con (.str "order"), .con (.str "low"), .con (.str "high"), .con (.str "done"), .con (.str "limit"), .con (.str "none"), .con (.str "to"), .con (.str "ok"), .con (.str "open")], .op .lst []],
    .fo .rng [.var 1] (.n 2) (nmBody d p),
    .ret (.mov 4)]⟩
def fsNames : FS := fun args K R => ∃ s n k, args = [.fl s, .pu (.int k)] ∧ Stt n s ∧ n < 10 ^ 14 ∧ 0 ≤ k ∧ k ≤ 20 ∧ ∀ (xs : List Str) s', (xs.length : Int) = k → xs.Nodup → (∀ x ∈ xs, IsNm x) → Stt (n + 200) s' → K (.fl (xs.map .str)) [.fl s']
theorem Stt.mono {n m : Nat} {s : List D} (h : Stt n s) (hm : n ≤ m) : Stt m s := by
  obtain ⟨a, b, c, e, h1, h2⟩ := h
  exact ⟨a, b, c, e, h1, by omega⟩
theorem any_deq (x : Str) (ys : List Str) : ((ys.map D.str).any fun y => deq y (.str x)) = ys.contains x := by
  induction ys with
  | nil => rfl
  | cons y ys ih =>
    rw [List.map_cons, List.any_cons, ih, List.contains_cons]
    congr 1
    simp only [deq]
    by_cases h : x = y
    · subst h; simp
    · have : ¬ y = x := fun e => h e.symm
      simp [h, this]
theorem cmp_strs (x : Str) (ys : List Str) : ∀ y ∈ ys.map D.str, cmpOk y (.str x) := by
  intro y hy
  obtain ⟨z, _, rfl⟩ := List.mem_map.mp hy
  exact ⟨rfl, by simp [depD]⟩
def wordsD : List D := [.str "new", .str "free", .str "plan", .str "order", .str "low", .str "high", .str "done", .str "limit", .str "none", .str "to", .str "ok", .str "open"]
theorem words_nm {x : D} (h : x ∈ wordsD) : ∃ z, x = .str z ∧ IsNm z := by
  have : ∀ x ∈ wordsD, (match x with | .str z => isNmB z | _ => false) = true := by decide +kernel
  have := this x h
  split at this
  · exact ⟨_, rfl, isNmB_iff.mp this⟩
  · cases this
theorem alph_at {x : D} (h : x ∈ (cds alph).map fun c => D.str ⟨#[c]⟩) : ∃ c, x = .str ⟨#[c]⟩ ∧ 97 ≤ c ∧ c ≤ 122 := by
  obtain ⟨c, hc, rfl⟩ := List.mem_map.mp h
  rw [alph_cds] at hc
  obtain ⟨i, hi, rfl⟩ := List.mem_map.mp hc
  have := List.mem_range.mp hi
  exact ⟨_, rfl, by omega, by omega⟩
theorem alph_ok : elts (.str "abcdefghijklmnopqrstuvwxyz") = some ((cds alph).map fun c => .str ⟨#[c]⟩) := elts_str (by decide)
theorem strs_map (xs : List Str) : strsOf (xs.map .str) = some xs := by
  induction xs with
  | nil => rfl
  | cons x xs ih => simp [strsOf, ih]
theorem ints_map (xs : List Int) : intsOf (xs.map .int) = some xs := by
  induction xs with
  | nil => rfl
  | cons x xs ih => simp [intsOf, ih]
/-- the first five signs and one more -/
def ext5 (w : Str) (c : Nat) : Str := cutS w none (some 5) ++ ⟨#[c]⟩
theorem cds_ext5 (w : Str) (c : Nat) : cds (ext5 w c) = (cds w).take 5 ++ [c] := by
  unfold ext5
  rw [cds_app, show (5 : Int) = ((5 : Nat) : Int) from rfl, cds_cut]
theorem ext5_nm {w : Str} {c : Nat} (h : IsNm w) (h1 : 97 ≤ c) (h2 : c ≤ 122) : IsNm (ext5 w c) := by
  have hl : (ext5 w c).length = (cds (ext5 w c)).length := (cds_len _).symm
  rw [cds_ext5] at hl
  have := cds_len w
  obtain ⟨q1, q2, q3⟩ := h
  refine ⟨?_, ?_, fun x hx => ?_⟩
  · rw [hl]; simp
  · rw [hl]; simp; omega
  · rw [cds_ext5] at hx
    rcases List.mem_append.mp hx with hx | hx
    · exact q3 x (List.mem_of_mem_take hx)
    · simp at hx; subst hx; exact ⟨h1, h2⟩
theorem nm_tail {Γ : Gam} {w : Str} {xs : List Str} {o0 o1 o2 o3 o6 o7 : Option O} {L bk ct : Ev → Prop} {rt : O → Ev → Prop} {R : Xp → Ev → Prop} (hw : IsNm w) (hx : ∀ x ∈ xs, IsNm x) (hn : xs.Nodup) (h20 : xs.length ≤ 20)
    (hL : ∀ w y7, IsNm w → w ∉ xs → L [o0, o1, o2, o3, some (.fl ((xs ++ [w]).map .str)), some (.pu (.str w)), o6, y7]) :
    wSs Γ nmTail [o0, o1, o2, o3, some (.fl (xs.map .str)), some (.pu (.str w)), o6, o7] ⟨L, rt, bk, ct⟩ R := by
  have hz := sizeLine_eq
  have add : ∀ w y7, IsNm w → w ∉ xs → (xs.map D.str).length < sizeLine ∧ L [o0, o1, o2, o3, some (.fl (xs.map D.str ++ [.str w])), some (.pu (.str w)), o6, y7] := fun w y7 h1 h2 => ⟨by simp; omega, by have := hL w y7 h1 h2; simpa using this⟩
  unfold nmTail
  simp only [DS.wSs, DS.wS, DS.wE, DS.wEs, DS.wAs, DS.wOI, DS.wCs, DS.asK, DS.tkD, DS.avIos, DS.putOs, DS.setAll, DS.opW, DS.bindT, DS.bindTs, DS.startE, DS.mTy, DS.ex_some, DS.ex_publ, DS.ex_int, DS.ex_int2, DS.ex_tup, DS.s_add1, DS.s_add2, DS.s_add3, DS.s_add4, DS.s_sub, DS.s_mul1, DS.s_mul2, DS.s_fdiv, DS.s_mod, DS.s_pow, DS.s_neg, DS.s_cmp1, DS.s_cmp2, DS.s_eq, DS.s_isN, DS.s_in1, DS.s_in2, DS.s_in3, DS.s_in4, DS.s_idx1, DS.s_idx2, DS.s_idx3, DS.s_idx4, DS.s_slc1, DS.s_slc2, DS.s_slc3, DS.s_slc4, DS.s_rev, DS.s_len1, DS.s_len2, DS.s_len3, DS.s_len4, DS.s_len5, DS.s_list1, DS.s_list2, DS.s_list3, DS.s_tuple1, DS.s_tuple2, DS.s_dict1, DS.s_dict2, DS.s_max2, DS.s_min2, DS.s_abs, DS.s_isi, DS.s_sum, DS.s_join, DS.s_upper, DS.s_items, DS.s_vals, DS.s_all, DS.s_str1, DS.s_str2, DS.s_str3, DS.s_int1, DS.s_int2, DS.s_get1, DS.s_get2, DS.s_dct0, DS.s_fz1, DS.s_fz2, DS.s_fz3, DS.s_bf1, DS.s_bf2, DS.s_bf3, DS.s_tr0, DS.s_tr1, DS.s_tr2, DS.s_tr3, DS.s_tr4, DS.s_tr5, DS.s_tr6, DS.s_av0, DS.s_av1, DS.s_av2, DS.s_ag0, DS.s_ag1, DS.s_ag2, DS.s_ty1, DS.s_ty2, DS.s_ty3, DS.s_ix0, DS.s_at0, DS.ex_cons, DS.s_dep1, DS.s_dep2, DS.s_dep3, DS.s_key1, DS.s_key2, DS.s_key3, DS.s_ot0, DS.ex_one, DS.s_ot1, DS.s_sq1, DS.s_sq2, DS.s_sq3, DS.s_sq4, DS.s_rg1, DS.s_rg2, DS.s_en, DS.s_it, DS.s_vl, List.map_cons, List.map_nil, List.cons_append, List.nil_append, List.length_cons, List.length_nil, List.replicate, Nat.add_one_sub_one, Nat.reduceAdd, Nat.reduceSub, List.append_nil, List.getElem?_cons_zero, List.getElem?_cons_succ, List.set_cons_zero, List.set_cons_succ, Option.map_some, Option.some.injEq, exists_eq_left', exists_eq', exists_eq_left, DS.O.pu.injEq, DS.O.fl.injEq, DS.O.fd.injEq, DS.wipeE, DS.backE, Option.getD_some, Option.getD_none, DS.D.bl.injEq, true_and, and_true, if_true, if_false, reduceCtorEq, Bool.false_eq_true, List.nodup_nil, List.nodup_cons, List.not_mem_nil, not_false_eq_true, exists_const, DS.s_at20, DS.s_at21, DS.s_at30, DS.s_at31, DS.s_at32, DS.s_revt, beq_true]
  refine ⟨cmp_strs _ _, ?_⟩
  rw [any_deq]
  split
  · rename_i hin
    refine compW_of (fun items acc e => ∃ (todo rest : List Nat) (ws : List Str) (x7 : Option O), items = todo.map (fun c => D.str ⟨#[c]⟩) ∧ acc = ws.map D.str ∧ e = [o0, o1, o2, o3, some (.fl (xs.map .str)), some (.pu (.str w)), o6, x7] ∧ rest ++ todo = cds alph ∧ ws = (rest.map (ext5 w)).filter fun x => !xs.contains x) ?_ ?_ _ _ _ ?_
    · rintro acc e ⟨todo, rest, ws, x7, h1, rfl, rfl, h2, rfl⟩
      have ht : todo = [] := by simpa using h1.symm
      subst ht
      rw [List.append_nil] at h2
      subst h2
      have hnd : ((cds alph).map (ext5 w)).Nodup := by
        refine List.Pairwise.map _ (fun a b hab e => hab ?_) (show (cds alph).Nodup by decide +kernel)
        have := congrArg cds e
        rw [cds_ext5, cds_ext5] at this
        simpa using this
      obtain ⟨v, hv1, hv2⟩ := pigeon _ xs hnd (by rw [List.length_map, cds_len, alph_len]; omega)
      have hmem : v ∈ ((cds alph).map (ext5 w)).filter fun x => !xs.contains x := List.mem_filter.mpr ⟨hv1, by simpa using hv2⟩
      obtain ⟨u, us, hu⟩ : ∃ u us, ((cds alph).map (ext5 w)).filter (fun x => !xs.contains x) = u :: us := by
        cases h : ((cds alph).map (ext5 w)).filter (fun x => !xs.contains x) with
        | nil => rw [h] at hmem; cases hmem
        | cons u us => exact ⟨u, us, rfl⟩
      have hu2 : u ∈ ((cds alph).map (ext5 w)).filter fun x => !xs.contains x := by rw [hu]; exact List.mem_cons_self ..
      obtain ⟨hu3, hu4⟩ := List.mem_filter.mp hu2
      obtain ⟨cc, hc, rfl⟩ := List.mem_map.mp hu3
      have hcc : 97 ≤ cc ∧ cc ≤ 122 := by
        rw [alph_cds] at hc
        obtain ⟨i, hi, rfl⟩ := List.mem_map.mp hc
        have := List.mem_range.mp hi
        omega
      rw [hu]
      simp only [DS.wSs, DS.wS, DS.wE, DS.wEs, DS.wAs, DS.wOI, DS.wCs, DS.asK, DS.tkD, DS.avIos, DS.putOs, DS.setAll, DS.opW, DS.bindT, DS.bindTs, DS.startE, DS.mTy, DS.ex_some, DS.ex_publ, DS.ex_int, DS.ex_int2, DS.ex_tup, DS.s_add1, DS.s_add2, DS.s_add3, DS.s_add4, DS.s_sub, DS.s_mul1, DS.s_mul2, DS.s_fdiv, DS.s_mod, DS.s_pow, DS.s_neg, DS.s_cmp1, DS.s_cmp2, DS.s_eq, DS.s_isN, DS.s_in1, DS.s_in2, DS.s_in3, DS.s_in4, DS.s_idx1, DS.s_idx2, DS.s_idx3, DS.s_idx4, DS.s_slc1, DS.s_slc2, DS.s_slc3, DS.s_slc4, DS.s_rev, DS.s_len1, DS.s_len2, DS.s_len3, DS.s_len4, DS.s_len5, DS.s_list1, DS.s_list2, DS.s_list3, DS.s_tuple1, DS.s_tuple2, DS.s_dict1, DS.s_dict2, DS.s_max2, DS.s_min2, DS.s_abs, DS.s_isi, DS.s_sum, DS.s_join, DS.s_upper, DS.s_items, DS.s_vals, DS.s_all, DS.s_str1, DS.s_str2, DS.s_str3, DS.s_int1, DS.s_int2, DS.s_get1, DS.s_get2, DS.s_dct0, DS.s_fz1, DS.s_fz2, DS.s_fz3, DS.s_bf1, DS.s_bf2, DS.s_bf3, DS.s_tr0, DS.s_tr1, DS.s_tr2, DS.s_tr3, DS.s_tr4, DS.s_tr5, DS.s_tr6, DS.s_av0, DS.s_av1, DS.s_av2, DS.s_ag0, DS.s_ag1, DS.s_ag2, DS.s_ty1, DS.s_ty2, DS.s_ty3, DS.s_ix0, DS.s_at0, DS.ex_cons, DS.s_dep1, DS.s_dep2, DS.s_dep3, DS.s_key1, DS.s_key2, DS.s_key3, DS.s_ot0, DS.ex_one, DS.s_ot1, DS.s_sq1, DS.s_sq2, DS.s_sq3, DS.s_sq4, DS.s_rg1, DS.s_rg2, DS.s_en, DS.s_it, DS.s_vl, List.map_cons, List.map_nil, List.cons_append, List.nil_append, List.length_cons, List.length_nil, List.replicate, Nat.add_one_sub_one, Nat.reduceAdd, Nat.reduceSub, List.append_nil, List.getElem?_cons_zero, List.getElem?_cons_succ, List.set_cons_zero, List.set_cons_succ, Option.map_some, Option.some.injEq, exists_eq_left', exists_eq', exists_eq_left, DS.O.pu.injEq, DS.O.fl.injEq, DS.O.fd.injEq, DS.wipeE, DS.backE, Option.getD_some, Option.getD_none, DS.D.bl.injEq, true_and, and_true, if_true, if_false, reduceCtorEq, Bool.false_eq_true, List.nodup_nil, List.nodup_cons, List.not_mem_nil, not_false_eq_true, exists_const, DS.s_at20, DS.s_at21, DS.s_at30, DS.s_at31, DS.s_at32, DS.s_revt]
      exact add _ _ (ext5_nm hw hcc.1 hcc.2) (by simpa using hu4)
    · rintro dd ds acc e L1 ⟨todo, rest, ws, x7, h1, rfl, rfl, h2, rfl⟩ hn1 hy1
      cases todo with
      | nil => simp at h1
      | cons cc todo =>
        simp only [List.map_cons, List.cons.injEq] at h1
        obtain ⟨rfl, rfl⟩ := h1
        have hlen : rest.length ≤ 26 := by
          have := congrArg List.length h2
          rw [cds_len, alph_len] at this
          simp at this
          omega
        have hw5 : w.length ≤ sizeLine := by have := hw.2.1; omega
        have hc5 : (cutS w none (some 5)).length + (⟨#[cc]⟩ : Str).length ≤ sizeLine := by
          have h3 := cutS_length w none (some 5)
          have : (⟨#[cc]⟩ : Str).length = 1 := rfl
          have := hw.2.1
          omega
        simp only [DS.wSs, DS.wS, DS.wE, DS.wEs, DS.wAs, DS.wOI, DS.wCs, DS.asK, DS.tkD, DS.avIos, DS.putOs, DS.setAll, DS.opW, DS.bindT, DS.bindTs, DS.startE, DS.mTy, DS.ex_some, DS.ex_publ, DS.ex_int, DS.ex_int2, DS.ex_tup, DS.s_add1, DS.s_add2, DS.s_add3, DS.s_add4, DS.s_sub, DS.s_mul1, DS.s_mul2, DS.s_fdiv, DS.s_mod, DS.s_pow, DS.s_neg, DS.s_cmp1, DS.s_cmp2, DS.s_eq, DS.s_isN, DS.s_in1, DS.s_in2, DS.s_in3, DS.s_in4, DS.s_idx1, DS.s_idx2, DS.s_idx3, DS.s_idx4, DS.s_slc1, DS.s_slc2, DS.s_slc3, DS.s_slc4, DS.s_rev, DS.s_len1, DS.s_len2, DS.s_len3, DS.s_len4, DS.s_len5, DS.s_list1, DS.s_list2, DS.s_list3, DS.s_tuple1, DS.s_tuple2, DS.s_dict1, DS.s_dict2, DS.s_max2, DS.s_min2, DS.s_abs, DS.s_isi, DS.s_sum, DS.s_join, DS.s_upper, DS.s_items, DS.s_vals, DS.s_all, DS.s_str1, DS.s_str2, DS.s_str3, DS.s_int1, DS.s_int2, DS.s_get1, DS.s_get2, DS.s_dct0, DS.s_fz1, DS.s_fz2, DS.s_fz3, DS.s_bf1, DS.s_bf2, DS.s_bf3, DS.s_tr0, DS.s_tr1, DS.s_tr2, DS.s_tr3, DS.s_tr4, DS.s_tr5, DS.s_tr6, DS.s_av0, DS.s_av1, DS.s_av2, DS.s_ag0, DS.s_ag1, DS.s_ag2, DS.s_ty1, DS.s_ty2, DS.s_ty3, DS.s_ix0, DS.s_at0, DS.ex_cons, DS.s_dep1, DS.s_dep2, DS.s_dep3, DS.s_key1, DS.s_key2, DS.s_key3, DS.s_ot0, DS.ex_one, DS.s_ot1, DS.s_sq1, DS.s_sq2, DS.s_sq3, DS.s_sq4, DS.s_rg1, DS.s_rg2, DS.s_en, DS.s_it, DS.s_vl, List.map_cons, List.map_nil, List.cons_append, List.nil_append, List.length_cons, List.length_nil, List.replicate, Nat.add_one_sub_one, Nat.reduceAdd, Nat.reduceSub, List.append_nil, List.getElem?_cons_zero, List.getElem?_cons_succ, List.set_cons_zero, List.set_cons_succ, Option.map_some, Option.some.injEq, exists_eq_left', exists_eq', exists_eq_left, DS.O.pu.injEq, DS.O.fl.injEq, DS.O.fd.injEq, DS.wipeE, DS.backE, Option.getD_some, Option.getD_none, DS.D.bl.injEq, true_and, and_true, if_true, if_false, reduceCtorEq, Bool.false_eq_true, List.nodup_nil, List.nodup_cons, List.not_mem_nil, not_false_eq_true, exists_const, DS.s_at20, DS.s_at21, DS.s_at30, DS.s_at31, DS.s_at32, DS.s_revt, beq_false]
        refine ⟨hw5, hc5, cmp_strs _ _, ?_⟩
        simp only [any_deq]
        have key : rest ++ cc :: todo = (rest ++ [cc]) ++ todo := by simp
        split
        · rename_i hc
          have hc : (!xs.contains (ext5 w cc)) = true := hc
          refine ⟨hw5, hc5, hy1 (.str (ext5 w cc)) _ ?_ ?_⟩
          · have := List.length_filter_le (fun x => !xs.contains x) (rest.map (ext5 w))
            simp only [List.length_map] at this ⊢
            omega
          · refine ⟨todo, rest ++ [cc], _, _, rfl, ?_, rfl, by rw [← key]; exact h2, rfl⟩
            have hf : ([cc].map (ext5 w)).filter (fun x => !xs.contains x) = [ext5 w cc] := by rw [List.map_cons, List.map_nil, List.filter_cons, if_pos hc, List.filter_nil]
            rw [List.map_append, List.filter_append, List.map_append, hf]
            rfl
        · rename_i hc
          have hc : ¬ (!xs.contains (ext5 w cc)) = true := hc
          refine hn1 _ ⟨todo, rest ++ [cc], _, _, rfl, ?_, rfl, by rw [← key]; exact h2, rfl⟩
          have hf : ([cc].map (ext5 w)).filter (fun x => !xs.contains x) = [] := by rw [List.map_cons, List.map_nil, List.filter_cons, if_neg hc, List.filter_nil]
          rw [List.map_append, List.filter_append, hf, List.append_nil]
    · exact ⟨cds alph, [], [], _, rfl, rfl, rfl, rfl, rfl⟩
  · rename_i hin
    have hni : w ∉ xs := fun h => hin (by simpa using h)
    exact add w o7 hw hni
theorem join_nm {ys : List Str} (h1 : 1 ≤ ys.length) (h2 : ys.length ≤ 6) (h : ∀ y ∈ ys, ∃ c, y = ⟨#[c]⟩ ∧ 97 ≤ c ∧ c ≤ 122) : IsNm (Txt.join ⟨#[]⟩ ys) := by
  have e : cds (Txt.join ⟨#[]⟩ ys) = (ys.map cds).flatten := cds_join ys
  have hl : (Txt.join ⟨#[]⟩ ys).length = ys.length := by
    rw [← cds_len, e]
    clear h1 h2 e
    induction ys with
    | nil => rfl
    | cons y ys ih =>
      obtain ⟨c, rfl, _⟩ := h y (List.mem_cons_self ..)
      have := ih fun z hz => h z (List.mem_cons_of_mem _ hz)
      simp only [List.map_cons, List.flatten_cons, List.length_append, this, List.length_cons]
      simp
      omega
  refine ⟨by omega, by omega, fun x hx => ?_⟩
  rw [e] at hx
  obtain ⟨l, hl, hx⟩ := List.mem_flatten.mp hx
  obtain ⟨y, hy, rfl⟩ := List.mem_map.mp hl
  obtain ⟨c, rfl, h3, h4⟩ := h y hy
  simp [cds] at hx
  subst hx
  exact ⟨h3, h4⟩
theorem ok_names {Γ : Gam} {d p : Nat} (hd : Γ d = fsDraw) (hp : Γ p = fsPick) : Fn.Ok Γ (fNames d p) fsNames := by
  rintro args K R ⟨s, n, k, rfl, hs, hn, hk0, hk1, hk⟩
  refine ⟨rfl, ?_⟩
  unfold fNames
  simp only [DS.wSs, DS.wS, DS.wE, DS.wEs, DS.wAs, DS.wOI, DS.wCs, DS.asK, DS.tkD, DS.avIos, DS.putOs, DS.setAll, DS.opW, DS.bindT, DS.bindTs, DS.startE, DS.mTy, DS.ex_some, DS.ex_publ, DS.ex_int, DS.ex_int2, DS.ex_tup, DS.s_add1, DS.s_add2, DS.s_add3, DS.s_add4, DS.s_sub, DS.s_mul1, DS.s_mul2, DS.s_fdiv, DS.s_mod, DS.s_pow, DS.s_neg, DS.s_cmp1, DS.s_cmp2, DS.s_eq, DS.s_isN, DS.s_in1, DS.s_in2, DS.s_in3, DS.s_in4, DS.s_idx1, DS.s_idx2, DS.s_idx3, DS.s_idx4, DS.s_slc1, DS.s_slc2, DS.s_slc3, DS.s_slc4, DS.s_rev, DS.s_len1, DS.s_len2, DS.s_len3, DS.s_len4, DS.s_len5, DS.s_list1, DS.s_list2, DS.s_list3, DS.s_tuple1, DS.s_tuple2, DS.s_dict1, DS.s_dict2, DS.s_max2, DS.s_min2, DS.s_abs, DS.s_isi, DS.s_sum, DS.s_join, DS.s_upper, DS.s_items, DS.s_vals, DS.s_all, DS.s_str1, DS.s_str2, DS.s_str3, DS.s_int1, DS.s_int2, DS.s_get1, DS.s_get2, DS.s_dct0, DS.s_fz1, DS.s_fz2, DS.s_fz3, DS.s_bf1, DS.s_bf2, DS.s_bf3, DS.s_tr0, DS.s_tr1, DS.s_tr2, DS.s_tr3, DS.s_tr4, DS.s_tr5, DS.s_tr6, DS.s_av0, DS.s_av1, DS.s_av2, DS.s_ag0, DS.s_ag1, DS.s_ag2, DS.s_ty1, DS.s_ty2, DS.s_ty3, DS.s_ix0, DS.s_at0, DS.ex_cons, DS.s_dep1, DS.s_dep2, DS.s_dep3, DS.s_key1, DS.s_key2, DS.s_key3, DS.s_ot0, DS.ex_one, DS.s_ot1, DS.s_sq1, DS.s_sq2, DS.s_sq3, DS.s_sq4, DS.s_rg1, DS.s_rg2, DS.s_en, DS.s_it, DS.s_vl, List.map_cons, List.map_nil, List.cons_append, List.nil_append, List.length_cons, List.length_nil, List.replicate, Nat.add_one_sub_one, Nat.reduceAdd, Nat.reduceSub, List.append_nil, List.getElem?_cons_zero, List.getElem?_cons_succ, List.set_cons_zero, List.set_cons_succ, Option.map_some, Option.some.injEq, exists_eq_left', exists_eq', exists_eq_left, DS.O.pu.injEq, DS.O.fl.injEq, DS.O.fd.injEq, DS.wipeE, DS.backE, Option.getD_some, Option.getD_none, DS.D.bl.injEq, true_and, and_true, if_true, if_false, reduceCtorEq, Bool.false_eq_true, List.nodup_nil, List.nodup_cons, List.not_mem_nil, not_false_eq_true, exists_const, DS.s_at20, DS.s_at21, DS.s_at30, DS.s_at31, DS.s_at32, DS.s_revt]
  refine ⟨by decide, by decide, ⟨by omega, by omega⟩, ?_⟩
  refine loopW_of (fun items e => ∃ (xs : List Str) (s' : List D) (m : Nat) (x2 : Option O) (o3 : O) (x5 x6 x7 : Option O), e = [some (.fl s'), some (.pu (.int k)), x2, some o3, some (.fl (xs.map .str)), x5, x6, x7] ∧ o3.fz = .lst wordsD ∧ Stt m s' ∧ m + 10 * items.length ≤ n + 200 ∧ xs.length + items.length = k.toNat ∧ xs.Nodup ∧ ∀ x ∈ xs, IsNm x) ?_ ?_ _ _ ?_
  · rintro e ⟨xs, s', m, x2, o3, x5, x6, x7, rfl, h3, h4, h5, h6, h7, h8⟩
    simp only [DS.wSs, DS.wS, DS.wE, DS.wEs, DS.wAs, DS.wOI, DS.wCs, DS.asK, DS.tkD, DS.avIos, DS.putOs, DS.setAll, DS.opW, DS.bindT, DS.bindTs, DS.startE, DS.mTy, DS.ex_some, DS.ex_publ, DS.ex_int, DS.ex_int2, DS.ex_tup, DS.s_add1, DS.s_add2, DS.s_add3, DS.s_add4, DS.s_sub, DS.s_mul1, DS.s_mul2, DS.s_fdiv, DS.s_mod, DS.s_pow, DS.s_neg, DS.s_cmp1, DS.s_cmp2, DS.s_eq, DS.s_isN, DS.s_in1, DS.s_in2, DS.s_in3, DS.s_in4, DS.s_idx1, DS.s_idx2, DS.s_idx3, DS.s_idx4, DS.s_slc1, DS.s_slc2, DS.s_slc3, DS.s_slc4, DS.s_rev, DS.s_len1, DS.s_len2, DS.s_len3, DS.s_len4, DS.s_len5, DS.s_list1, DS.s_list2, DS.s_list3, DS.s_tuple1, DS.s_tuple2, DS.s_dict1, DS.s_dict2, DS.s_max2, DS.s_min2, DS.s_abs, DS.s_isi, DS.s_sum, DS.s_join, DS.s_upper, DS.s_items, DS.s_vals, DS.s_all, DS.s_str1, DS.s_str2, DS.s_str3, DS.s_int1, DS.s_int2, DS.s_get1, DS.s_get2, DS.s_dct0, DS.s_fz1, DS.s_fz2, DS.s_fz3, DS.s_bf1, DS.s_bf2, DS.s_bf3, DS.s_tr0, DS.s_tr1, DS.s_tr2, DS.s_tr3, DS.s_tr4, DS.s_tr5, DS.s_tr6, DS.s_av0, DS.s_av1, DS.s_av2, DS.s_ag0, DS.s_ag1, DS.s_ag2, DS.s_ty1, DS.s_ty2, DS.s_ty3, DS.s_ix0, DS.s_at0, DS.ex_cons, DS.s_dep1, DS.s_dep2, DS.s_dep3, DS.s_key1, DS.s_key2, DS.s_key3, DS.s_ot0, DS.ex_one, DS.s_ot1, DS.s_sq1, DS.s_sq2, DS.s_sq3, DS.s_sq4, DS.s_rg1, DS.s_rg2, DS.s_en, DS.s_it, DS.s_vl, List.map_cons, List.map_nil, List.cons_append, List.nil_append, List.length_cons, List.length_nil, List.replicate, Nat.add_one_sub_one, Nat.reduceAdd, Nat.reduceSub, List.append_nil, List.getElem?_cons_zero, List.getElem?_cons_succ, List.set_cons_zero, List.set_cons_succ, Option.map_some, Option.some.injEq, exists_eq_left', exists_eq', exists_eq_left, DS.O.pu.injEq, DS.O.fl.injEq, DS.O.fd.injEq, DS.wipeE, DS.backE, Option.getD_some, Option.getD_none, DS.D.bl.injEq, true_and, and_true, if_true, if_false, reduceCtorEq, Bool.false_eq_true, List.nodup_nil, List.nodup_cons, List.not_mem_nil, not_false_eq_true, exists_const, DS.s_at20, DS.s_at21, DS.s_at30, DS.s_at31, DS.s_at32, DS.s_revt]
    exact hk xs s' (by simp at h6; omega) h7 h8 (h4.mono (by simp at h5; omega))
  · rintro dd ds e L ⟨xs, s', m, x2, o3, x5, x6, x7, rfl, h3, h4, h5, h6, h7, h8⟩ hL
    simp only [List.length_cons] at h5 h6
    have fin : ∀ (s1 : List D) (m1 : Nat) y2 y6, Stt m1 s1 → m1 ≤ m + 10 → ∀ w y7, IsNm w → w ∉ xs → L [some (.fl s1), some (.pu (.int k)), y2, some (.pu (.lst wordsD)), some (.fl ((xs ++ [w]).map .str)), some (.pu (.str w)), y6, y7] := by
      intro s1 m1 y2 y6 h1 h2 w y7 hw hn7
      refine hL _ ⟨xs ++ [w], s1, m1, _, _, _, _, _, rfl, rfl, h1, by omega, by simp; omega, ?_, ?_⟩
      · exact List.nodup_append.mpr ⟨h7, by simp, fun a ha b hb e => by simp at hb; subst hb; subst e; exact hn7 ha⟩
      · intro x hx
        rcases List.mem_append.mp hx with hx | hx
        · exact h8 x hx
        · simp at hx; subst hx; exact hw
    unfold nmBody
    simp only [DS.wSs, DS.wS, DS.wE, DS.wEs, DS.wAs, DS.wOI, DS.wCs, DS.asK, DS.tkD, DS.avIos, DS.putOs, DS.setAll, DS.opW, DS.bindT, DS.bindTs, DS.startE, DS.mTy, DS.ex_some, DS.ex_publ, DS.ex_int, DS.ex_int2, DS.ex_tup, DS.s_add1, DS.s_add2, DS.s_add3, DS.s_add4, DS.s_sub, DS.s_mul1, DS.s_mul2, DS.s_fdiv, DS.s_mod, DS.s_pow, DS.s_neg, DS.s_cmp1, DS.s_cmp2, DS.s_eq, DS.s_isN, DS.s_in1, DS.s_in2, DS.s_in3, DS.s_in4, DS.s_idx1, DS.s_idx2, DS.s_idx3, DS.s_idx4, DS.s_slc1, DS.s_slc2, DS.s_slc3, DS.s_slc4, DS.s_rev, DS.s_len1, DS.s_len2, DS.s_len3, DS.s_len4, DS.s_len5, DS.s_list1, DS.s_list2, DS.s_list3, DS.s_tuple1, DS.s_tuple2, DS.s_dict1, DS.s_dict2, DS.s_max2, DS.s_min2, DS.s_abs, DS.s_isi, DS.s_sum, DS.s_join, DS.s_upper, DS.s_items, DS.s_vals, DS.s_all, DS.s_str1, DS.s_str2, DS.s_str3, DS.s_int1, DS.s_int2, DS.s_get1, DS.s_get2, DS.s_dct0, DS.s_fz1, DS.s_fz2, DS.s_fz3, DS.s_bf1, DS.s_bf2, DS.s_bf3, DS.s_tr0, DS.s_tr1, DS.s_tr2, DS.s_tr3, DS.s_tr4, DS.s_tr5, DS.s_tr6, DS.s_av0, DS.s_av1, DS.s_av2, DS.s_ag0, DS.s_ag1, DS.s_ag2, DS.s_ty1, DS.s_ty2, DS.s_ty3, DS.s_ix0, DS.s_at0, DS.ex_cons, DS.s_dep1, DS.s_dep2, DS.s_dep3, DS.s_key1, DS.s_key2, DS.s_key3, DS.s_ot0, DS.ex_one, DS.s_ot1, DS.s_sq1, DS.s_sq2, DS.s_sq3, DS.s_sq4, DS.s_rg1, DS.s_rg2, DS.s_en, DS.s_it, DS.s_vl, List.map_cons, List.map_nil, List.cons_append, List.nil_append, List.length_cons, List.length_nil, List.replicate, Nat.add_one_sub_one, Nat.reduceAdd, Nat.reduceSub, List.append_nil, List.getElem?_cons_zero, List.getElem?_cons_succ, List.set_cons_zero, List.set_cons_succ, Option.map_some, Option.some.injEq, exists_eq_left', exists_eq', exists_eq_left, DS.O.pu.injEq, DS.O.fl.injEq, DS.O.fd.injEq, DS.wipeE, DS.backE, Option.getD_some, Option.getD_none, DS.D.bl.injEq, true_and, and_true, if_true, if_false, reduceCtorEq, Bool.false_eq_true, List.nodup_nil, List.nodup_cons, List.not_mem_nil, not_false_eq_true, exists_const, DS.s_at20, DS.s_at21, DS.s_at30, DS.s_at31, DS.s_at32, DS.s_revt, h3, hp]
    refine ⟨s', m, _, wordsD, rfl, rfl, by decide, by decide, h4, by omega, fun x s1 hx h1 => ⟨rfl, ?_⟩⟩
    obtain ⟨w0, rfl, hw0⟩ := words_nm hx
    simp only [DS.wSs, DS.wS, DS.wE, DS.wEs, DS.wAs, DS.wOI, DS.wCs, DS.asK, DS.tkD, DS.avIos, DS.putOs, DS.setAll, DS.opW, DS.bindT, DS.bindTs, DS.startE, DS.mTy, DS.ex_some, DS.ex_publ, DS.ex_int, DS.ex_int2, DS.ex_tup, DS.s_add1, DS.s_add2, DS.s_add3, DS.s_add4, DS.s_sub, DS.s_mul1, DS.s_mul2, DS.s_fdiv, DS.s_mod, DS.s_pow, DS.s_neg, DS.s_cmp1, DS.s_cmp2, DS.s_eq, DS.s_isN, DS.s_in1, DS.s_in2, DS.s_in3, DS.s_in4, DS.s_idx1, DS.s_idx2, DS.s_idx3, DS.s_idx4, DS.s_slc1, DS.s_slc2, DS.s_slc3, DS.s_slc4, DS.s_rev, DS.s_len1, DS.s_len2, DS.s_len3, DS.s_len4, DS.s_len5, DS.s_list1, DS.s_list2, DS.s_list3, DS.s_tuple1, DS.s_tuple2, DS.s_dict1, DS.s_dict2, DS.s_max2, DS.s_min2, DS.s_abs, DS.s_isi, DS.s_sum, DS.s_join, DS.s_upper, DS.s_items, DS.s_vals, DS.s_all, DS.s_str1, DS.s_str2, DS.s_str3, DS.s_int1, DS.s_int2, DS.s_get1, DS.s_get2, DS.s_dct0, DS.s_fz1, DS.s_fz2, DS.s_fz3, DS.s_bf1, DS.s_bf2, DS.s_bf3, DS.s_tr0, DS.s_tr1, DS.s_tr2, DS.s_tr3, DS.s_tr4, DS.s_tr5, DS.s_tr6, DS.s_av0, DS.s_av1, DS.s_av2, DS.s_ag0, DS.s_ag1, DS.s_ag2, DS.s_ty1, DS.s_ty2, DS.s_ty3, DS.s_ix0, DS.s_at0, DS.ex_cons, DS.s_dep1, DS.s_dep2, DS.s_dep3, DS.s_key1, DS.s_key2, DS.s_key3, DS.s_ot0, DS.ex_one, DS.s_ot1, DS.s_sq1, DS.s_sq2, DS.s_sq3, DS.s_sq4, DS.s_rg1, DS.s_rg2, DS.s_en, DS.s_it, DS.s_vl, List.map_cons, List.map_nil, List.cons_append, List.nil_append, List.length_cons, List.length_nil, List.replicate, Nat.add_one_sub_one, Nat.reduceAdd, Nat.reduceSub, List.append_nil, List.getElem?_cons_zero, List.getElem?_cons_succ, List.set_cons_zero, List.set_cons_succ, Option.map_some, Option.some.injEq, exists_eq_left', exists_eq', exists_eq_left, DS.O.pu.injEq, DS.O.fl.injEq, DS.O.fd.injEq, DS.wipeE, DS.backE, Option.getD_some, Option.getD_none, DS.D.bl.injEq, true_and, and_true, if_true, if_false, reduceCtorEq, Bool.false_eq_true, List.nodup_nil, List.nodup_cons, List.not_mem_nil, not_false_eq_true, exists_const, DS.s_at20, DS.s_at21, DS.s_at30, DS.s_at31, DS.s_at32, DS.s_revt, hd]
    refine ⟨s1, m + 1, 3, rfl, h1, by omega, by decide, by decide, fun r s2 r0 r1 h2 => ⟨rfl, ?_⟩⟩
    simp only [DS.wSs, DS.wS, DS.wE, DS.wEs, DS.wAs, DS.wOI, DS.wCs, DS.asK, DS.tkD, DS.avIos, DS.putOs, DS.setAll, DS.opW, DS.bindT, DS.bindTs, DS.startE, DS.mTy, DS.ex_some, DS.ex_publ, DS.ex_int, DS.ex_int2, DS.ex_tup, DS.s_add1, DS.s_add2, DS.s_add3, DS.s_add4, DS.s_sub, DS.s_mul1, DS.s_mul2, DS.s_fdiv, DS.s_mod, DS.s_pow, DS.s_neg, DS.s_cmp1, DS.s_cmp2, DS.s_eq, DS.s_isN, DS.s_in1, DS.s_in2, DS.s_in3, DS.s_in4, DS.s_idx1, DS.s_idx2, DS.s_idx3, DS.s_idx4, DS.s_slc1, DS.s_slc2, DS.s_slc3, DS.s_slc4, DS.s_rev, DS.s_len1, DS.s_len2, DS.s_len3, DS.s_len4, DS.s_len5, DS.s_list1, DS.s_list2, DS.s_list3, DS.s_tuple1, DS.s_tuple2, DS.s_dict1, DS.s_dict2, DS.s_max2, DS.s_min2, DS.s_abs, DS.s_isi, DS.s_sum, DS.s_join, DS.s_upper, DS.s_items, DS.s_vals, DS.s_all, DS.s_str1, DS.s_str2, DS.s_str3, DS.s_int1, DS.s_int2, DS.s_get1, DS.s_get2, DS.s_dct0, DS.s_fz1, DS.s_fz2, DS.s_fz3, DS.s_bf1, DS.s_bf2, DS.s_bf3, DS.s_tr0, DS.s_tr1, DS.s_tr2, DS.s_tr3, DS.s_tr4, DS.s_tr5, DS.s_tr6, DS.s_av0, DS.s_av1, DS.s_av2, DS.s_ag0, DS.s_ag1, DS.s_ag2, DS.s_ty1, DS.s_ty2, DS.s_ty3, DS.s_ix0, DS.s_at0, DS.ex_cons, DS.s_dep1, DS.s_dep2, DS.s_dep3, DS.s_key1, DS.s_key2, DS.s_key3, DS.s_ot0, DS.ex_one, DS.s_ot1, DS.s_sq1, DS.s_sq2, DS.s_sq3, DS.s_sq4, DS.s_rg1, DS.s_rg2, DS.s_en, DS.s_it, DS.s_vl, List.map_cons, List.map_nil, List.cons_append, List.nil_append, List.length_cons, List.length_nil, List.replicate, Nat.add_one_sub_one, Nat.reduceAdd, Nat.reduceSub, List.append_nil, List.getElem?_cons_zero, List.getElem?_cons_succ, List.set_cons_zero, List.set_cons_succ, Option.map_some, Option.some.injEq, exists_eq_left', exists_eq', exists_eq_left, DS.O.pu.injEq, DS.O.fl.injEq, DS.O.fd.injEq, DS.wipeE, DS.backE, Option.getD_some, Option.getD_none, DS.D.bl.injEq, true_and, and_true, if_true, if_false, reduceCtorEq, Bool.false_eq_true, List.nodup_nil, List.nodup_cons, List.not_mem_nil, not_false_eq_true, exists_const, DS.s_at20, DS.s_at21, DS.s_at30, DS.s_at31, DS.s_at32, DS.s_revt, decide_eq_true_eq]
    split
    · refine ⟨s2, m + 1 + 1, 6, rfl, h2, by omega, by decide, by decide, fun q s3 q0 q1 h3' => ⟨rfl, ?_⟩⟩
      simp only [DS.wSs, DS.wS, DS.wE, DS.wEs, DS.wAs, DS.wOI, DS.wCs, DS.asK, DS.tkD, DS.avIos, DS.putOs, DS.setAll, DS.opW, DS.bindT, DS.bindTs, DS.startE, DS.mTy, DS.ex_some, DS.ex_publ, DS.ex_int, DS.ex_int2, DS.ex_tup, DS.s_add1, DS.s_add2, DS.s_add3, DS.s_add4, DS.s_sub, DS.s_mul1, DS.s_mul2, DS.s_fdiv, DS.s_mod, DS.s_pow, DS.s_neg, DS.s_cmp1, DS.s_cmp2, DS.s_eq, DS.s_isN, DS.s_in1, DS.s_in2, DS.s_in3, DS.s_in4, DS.s_idx1, DS.s_idx2, DS.s_idx3, DS.s_idx4, DS.s_slc1, DS.s_slc2, DS.s_slc3, DS.s_slc4, DS.s_rev, DS.s_len1, DS.s_len2, DS.s_len3, DS.s_len4, DS.s_len5, DS.s_list1, DS.s_list2, DS.s_list3, DS.s_tuple1, DS.s_tuple2, DS.s_dict1, DS.s_dict2, DS.s_max2, DS.s_min2, DS.s_abs, DS.s_isi, DS.s_sum, DS.s_join, DS.s_upper, DS.s_items, DS.s_vals, DS.s_all, DS.s_str1, DS.s_str2, DS.s_str3, DS.s_int1, DS.s_int2, DS.s_get1, DS.s_get2, DS.s_dct0, DS.s_fz1, DS.s_fz2, DS.s_fz3, DS.s_bf1, DS.s_bf2, DS.s_bf3, DS.s_tr0, DS.s_tr1, DS.s_tr2, DS.s_tr3, DS.s_tr4, DS.s_tr5, DS.s_tr6, DS.s_av0, DS.s_av1, DS.s_av2, DS.s_ag0, DS.s_ag1, DS.s_ag2, DS.s_ty1, DS.s_ty2, DS.s_ty3, DS.s_ix0, DS.s_at0, DS.ex_cons, DS.s_dep1, DS.s_dep2, DS.s_dep3, DS.s_key1, DS.s_key2, DS.s_key3, DS.s_ot0, DS.ex_one, DS.s_ot1, DS.s_sq1, DS.s_sq2, DS.s_sq3, DS.s_sq4, DS.s_rg1, DS.s_rg2, DS.s_en, DS.s_it, DS.s_vl, List.map_cons, List.map_nil, List.cons_append, List.nil_append, List.length_cons, List.length_nil, List.replicate, Nat.add_one_sub_one, Nat.reduceAdd, Nat.reduceSub, List.append_nil, List.getElem?_cons_zero, List.getElem?_cons_succ, List.set_cons_zero, List.set_cons_succ, Option.map_some, Option.some.injEq, exists_eq_left', exists_eq', exists_eq_left, DS.O.pu.injEq, DS.O.fl.injEq, DS.O.fd.injEq, DS.wipeE, DS.backE, Option.getD_some, Option.getD_none, DS.D.bl.injEq, true_and, and_true, if_true, if_false, reduceCtorEq, Bool.false_eq_true, List.nodup_nil, List.nodup_cons, List.not_mem_nil, not_false_eq_true, exists_const, DS.s_at20, DS.s_at21, DS.s_at30, DS.s_at31, DS.s_at32, DS.s_revt]
      refine ⟨⟨by omega, by omega⟩, ?_⟩
      refine compW_of (fun items acc e => ∃ (ys : List Str) (s4 : List D) (m4 : Nat) (y6 : Option O), e = [some (.fl s4), some (.pu (.int k)), some (.pu dd), some (.pu (.lst wordsD)), some (.fl (xs.map .str)), some (.pu (.str w0)), y6, x7] ∧ acc = ys.map D.str ∧ (∀ y ∈ ys, ∃ c, y = ⟨#[c]⟩ ∧ 97 ≤ c ∧ c ≤ 122) ∧ Stt m4 s4 ∧ m4 + items.length ≤ m + 10 ∧ ys.length + items.length = (1 + q).toNat) ?_ ?_ _ _ _ ?_
      · rintro acc e ⟨ys, s4, m4, y6, rfl, rfl, hy, h4', h5', h6'⟩
        simp only [List.length_nil, Nat.add_zero] at h5' h6'
        have hsum : (ys.map (·.length)).sum = ys.length := by
          clear h6' h5'
          induction ys with
          | nil => rfl
          | cons y ys ih =>
            obtain ⟨c, rfl, _⟩ := hy y (List.mem_cons_self ..)
            have := ih fun z hz => hy z (List.mem_cons_of_mem _ hz)
            simp only [List.map_cons, List.sum_cons, this, List.length_cons]
            show 1 + _ = _
            omega
        simp only [DS.wSs, DS.wS, DS.wE, DS.wEs, DS.wAs, DS.wOI, DS.wCs, DS.asK, DS.tkD, DS.avIos, DS.putOs, DS.setAll, DS.opW, DS.bindT, DS.bindTs, DS.startE, DS.mTy, DS.ex_some, DS.ex_publ, DS.ex_int, DS.ex_int2, DS.ex_tup, DS.s_add1, DS.s_add2, DS.s_add3, DS.s_add4, DS.s_sub, DS.s_mul1, DS.s_mul2, DS.s_fdiv, DS.s_mod, DS.s_pow, DS.s_neg, DS.s_cmp1, DS.s_cmp2, DS.s_eq, DS.s_isN, DS.s_in1, DS.s_in2, DS.s_in3, DS.s_in4, DS.s_idx1, DS.s_idx2, DS.s_idx3, DS.s_idx4, DS.s_slc1, DS.s_slc2, DS.s_slc3, DS.s_slc4, DS.s_rev, DS.s_len1, DS.s_len2, DS.s_len3, DS.s_len4, DS.s_len5, DS.s_list1, DS.s_list2, DS.s_list3, DS.s_tuple1, DS.s_tuple2, DS.s_dict1, DS.s_dict2, DS.s_max2, DS.s_min2, DS.s_abs, DS.s_isi, DS.s_sum, DS.s_join, DS.s_upper, DS.s_items, DS.s_vals, DS.s_all, DS.s_str1, DS.s_str2, DS.s_str3, DS.s_int1, DS.s_int2, DS.s_get1, DS.s_get2, DS.s_dct0, DS.s_fz1, DS.s_fz2, DS.s_fz3, DS.s_bf1, DS.s_bf2, DS.s_bf3, DS.s_tr0, DS.s_tr1, DS.s_tr2, DS.s_tr3, DS.s_tr4, DS.s_tr5, DS.s_tr6, DS.s_av0, DS.s_av1, DS.s_av2, DS.s_ag0, DS.s_ag1, DS.s_ag2, DS.s_ty1, DS.s_ty2, DS.s_ty3, DS.s_ix0, DS.s_at0, DS.ex_cons, DS.s_dep1, DS.s_dep2, DS.s_dep3, DS.s_key1, DS.s_key2, DS.s_key3, DS.s_ot0, DS.ex_one, DS.s_ot1, DS.s_sq1, DS.s_sq2, DS.s_sq3, DS.s_sq4, DS.s_rg1, DS.s_rg2, DS.s_en, DS.s_it, DS.s_vl, List.map_cons, List.map_nil, List.cons_append, List.nil_append, List.length_cons, List.length_nil, List.replicate, Nat.add_one_sub_one, Nat.reduceAdd, Nat.reduceSub, List.append_nil, List.getElem?_cons_zero, List.getElem?_cons_succ, List.set_cons_zero, List.set_cons_succ, Option.map_some, Option.some.injEq, exists_eq_left', exists_eq', exists_eq_left, DS.O.pu.injEq, DS.O.fl.injEq, DS.O.fd.injEq, DS.wipeE, DS.backE, Option.getD_some, Option.getD_none, DS.D.bl.injEq, true_and, and_true, if_true, if_false, reduceCtorEq, Bool.false_eq_true, List.nodup_nil, List.nodup_cons, List.not_mem_nil, not_false_eq_true, exists_const, DS.s_at20, DS.s_at21, DS.s_at30, DS.s_at31, DS.s_at32, DS.s_revt, strs_map, empty_str]
        refine ⟨by rw [hsum]; simp [Str.length]; omega, ?_⟩
        exact nm_tail (join_nm (by omega) (by omega) hy) h8 h7 (by omega) (fin s4 m4 _ _ h4' (by omega))
      · rintro d1 ds1 acc e L1 ⟨ys, s4, m4, y6, rfl, rfl, hy, h4', h5', h6'⟩ _ hy1
        simp only [List.length_cons] at h5' h6'
        simp only [DS.wSs, DS.wS, DS.wE, DS.wEs, DS.wAs, DS.wOI, DS.wCs, DS.asK, DS.tkD, DS.avIos, DS.putOs, DS.setAll, DS.opW, DS.bindT, DS.bindTs, DS.startE, DS.mTy, DS.ex_some, DS.ex_publ, DS.ex_int, DS.ex_int2, DS.ex_tup, DS.s_add1, DS.s_add2, DS.s_add3, DS.s_add4, DS.s_sub, DS.s_mul1, DS.s_mul2, DS.s_fdiv, DS.s_mod, DS.s_pow, DS.s_neg, DS.s_cmp1, DS.s_cmp2, DS.s_eq, DS.s_isN, DS.s_in1, DS.s_in2, DS.s_in3, DS.s_in4, DS.s_idx1, DS.s_idx2, DS.s_idx3, DS.s_idx4, DS.s_slc1, DS.s_slc2, DS.s_slc3, DS.s_slc4, DS.s_rev, DS.s_len1, DS.s_len2, DS.s_len3, DS.s_len4, DS.s_len5, DS.s_list1, DS.s_list2, DS.s_list3, DS.s_tuple1, DS.s_tuple2, DS.s_dict1, DS.s_dict2, DS.s_max2, DS.s_min2, DS.s_abs, DS.s_isi, DS.s_sum, DS.s_join, DS.s_upper, DS.s_items, DS.s_vals, DS.s_all, DS.s_str1, DS.s_str2, DS.s_str3, DS.s_int1, DS.s_int2, DS.s_get1, DS.s_get2, DS.s_dct0, DS.s_fz1, DS.s_fz2, DS.s_fz3, DS.s_bf1, DS.s_bf2, DS.s_bf3, DS.s_tr0, DS.s_tr1, DS.s_tr2, DS.s_tr3, DS.s_tr4, DS.s_tr5, DS.s_tr6, DS.s_av0, DS.s_av1, DS.s_av2, DS.s_ag0, DS.s_ag1, DS.s_ag2, DS.s_ty1, DS.s_ty2, DS.s_ty3, DS.s_ix0, DS.s_at0, DS.ex_cons, DS.s_dep1, DS.s_dep2, DS.s_dep3, DS.s_key1, DS.s_key2, DS.s_key3, DS.s_ot0, DS.ex_one, DS.s_ot1, DS.s_sq1, DS.s_sq2, DS.s_sq3, DS.s_sq4, DS.s_rg1, DS.s_rg2, DS.s_en, DS.s_it, DS.s_vl, List.map_cons, List.map_nil, List.cons_append, List.nil_append, List.length_cons, List.length_nil, List.replicate, Nat.add_one_sub_one, Nat.reduceAdd, Nat.reduceSub, List.append_nil, List.getElem?_cons_zero, List.getElem?_cons_succ, List.set_cons_zero, List.set_cons_succ, Option.map_some, Option.some.injEq, exists_eq_left', exists_eq', exists_eq_left, DS.O.pu.injEq, DS.O.fl.injEq, DS.O.fd.injEq, DS.wipeE, DS.backE, Option.getD_some, Option.getD_none, DS.D.bl.injEq, true_and, and_true, if_true, if_false, reduceCtorEq, Bool.false_eq_true, List.nodup_nil, List.nodup_cons, List.not_mem_nil, not_false_eq_true, exists_const, DS.s_at20, DS.s_at21, DS.s_at30, DS.s_at31, DS.s_at32, DS.s_revt, hp]
        refine ⟨s4, m4, _, _, rfl, alph_ok, by decide, by decide, h4', by omega, fun x s5 hx5 h5'' => ⟨rfl, ?_⟩⟩
        obtain ⟨c, rfl, c1, c2⟩ := alph_at hx5
        simp only [DS.wSs, DS.wS, DS.wE, DS.wEs, DS.wAs, DS.wOI, DS.wCs, DS.asK, DS.tkD, DS.avIos, DS.putOs, DS.setAll, DS.opW, DS.bindT, DS.bindTs, DS.startE, DS.mTy, DS.ex_some, DS.ex_publ, DS.ex_int, DS.ex_int2, DS.ex_tup, DS.s_add1, DS.s_add2, DS.s_add3, DS.s_add4, DS.s_sub, DS.s_mul1, DS.s_mul2, DS.s_fdiv, DS.s_mod, DS.s_pow, DS.s_neg, DS.s_cmp1, DS.s_cmp2, DS.s_eq, DS.s_isN, DS.s_in1, DS.s_in2, DS.s_in3, DS.s_in4, DS.s_idx1, DS.s_idx2, DS.s_idx3, DS.s_idx4, DS.s_slc1, DS.s_slc2, DS.s_slc3, DS.s_slc4, DS.s_rev, DS.s_len1, DS.s_len2, DS.s_len3, DS.s_len4, DS.s_len5, DS.s_list1, DS.s_list2, DS.s_list3, DS.s_tuple1, DS.s_tuple2, DS.s_dict1, DS.s_dict2, DS.s_max2, DS.s_min2, DS.s_abs, DS.s_isi, DS.s_sum, DS.s_join, DS.s_upper, DS.s_items, DS.s_vals, DS.s_all, DS.s_str1, DS.s_str2, DS.s_str3, DS.s_int1, DS.s_int2, DS.s_get1, DS.s_get2, DS.s_dct0, DS.s_fz1, DS.s_fz2, DS.s_fz3, DS.s_bf1, DS.s_bf2, DS.s_bf3, DS.s_tr0, DS.s_tr1, DS.s_tr2, DS.s_tr3, DS.s_tr4, DS.s_tr5, DS.s_tr6, DS.s_av0, DS.s_av1, DS.s_av2, DS.s_ag0, DS.s_ag1, DS.s_ag2, DS.s_ty1, DS.s_ty2, DS.s_ty3, DS.s_ix0, DS.s_at0, DS.ex_cons, DS.s_dep1, DS.s_dep2, DS.s_dep3, DS.s_key1, DS.s_key2, DS.s_key3, DS.s_ot0, DS.ex_one, DS.s_ot1, DS.s_sq1, DS.s_sq2, DS.s_sq3, DS.s_sq4, DS.s_rg1, DS.s_rg2, DS.s_en, DS.s_it, DS.s_vl, List.map_cons, List.map_nil, List.cons_append, List.nil_append, List.length_cons, List.length_nil, List.replicate, Nat.add_one_sub_one, Nat.reduceAdd, Nat.reduceSub, List.append_nil, List.getElem?_cons_zero, List.getElem?_cons_succ, List.set_cons_zero, List.set_cons_succ, Option.map_some, Option.some.injEq, exists_eq_left', exists_eq', exists_eq_left, DS.O.pu.injEq, DS.O.fl.injEq, DS.O.fd.injEq, DS.wipeE, DS.backE, Option.getD_some, Option.getD_none, DS.D.bl.injEq, true_and, and_true, if_true, if_false, reduceCtorEq, Bool.false_eq_true, List.nodup_nil, List.nodup_cons, List.not_mem_nil, not_false_eq_true, exists_const, DS.s_at20, DS.s_at21, DS.s_at30, DS.s_at31, DS.s_at32, DS.s_revt]
        have hz := sizeLine_eq
        refine hy1 _ _ (by simp; omega) ⟨ys ++ [⟨#[c]⟩], s5, m4 + 1, _, rfl, by simp, fun y hy' => ?_, h5'', by omega, by simp; omega⟩
        rcases List.mem_append.mp hy' with h | h
        · exact hy y h
        · simp at h; exact ⟨c, h, c1, c2⟩
      · exact ⟨[], s3, _, _, rfl, rfl, (fun y hy => by cases hy), h3', by simp; omega, by simp⟩
    · exact nm_tail hw0 h8 h7 (by omega) (fin s2 _ _ _ h2 (by omega))
  · exact ⟨[], s, n, _, _, _, _, _, rfl, rfl, hs, by simp; omega, by simp, List.nodup_nil, fun x hx => by cases hx⟩
end DS
/-! DS21: dicts from texts. -/
namespace DS
open PySem PySem.Spec PyProof.Rows L2
section
variable {α : Type}
/-- a dict from texts as data -/
def enc (f : α → D) (l : List (Str × α)) : List (D × D) := l.map fun p => (.str p.1, f p.2)
def sget : List (Str × α) → Str → Option α
  | [], _ => none
  | p :: r, x => if p.1 = x then some p.2 else sget r x
def sput : List (Str × α) → Str → α → List (Str × α)
  | [], x, v => [(x, v)]
  | p :: r, x, v => if p.1 = x then (p.1, v) :: r else p :: sput r x v
variable {f : α → D} {l : List (Str × α)} {x y : Str} {v : α}
theorem text_inj {x y : Str} : (some (NestedKey.text x) = some (NestedKey.text y)) ↔ x = y := by simp
theorem dget_enc : ∀ {l : List (Str × α)}, dget (enc f l) (.text x) = (sget l x).map f
  | [] => rfl
  | p :: r => by
    have ih := dget_enc (l := r)
    unfold enc at ih ⊢
    simp only [List.map_cons, dget, s_key1, text_inj, sget]
    split
    · rfl
    · exact ih
theorem dput_enc : ∀ {l : List (Str × α)}, dput (enc f l) (.str x) (.text x) (f v) = enc f (sput l x v)
  | [] => rfl
  | p :: r => by
    have ih := dput_enc (l := r)
    unfold enc at ih ⊢
    simp only [List.map_cons, dput, s_key1, text_inj, sput]
    split
    · rfl
    · simp only [List.map_cons, ih]
theorem sget_put : ∀ {l : List (Str × α)}, sget (sput l x v) y = if y = x then some v else sget l y
  | [] => by
    simp only [sput, sget]
    by_cases h : y = x
    · subst h; simp
    · have : ¬ x = y := fun e => h e.symm
      simp [h, this]
  | p :: r => by
    have ih := sget_put (l := r)
    simp only [sput]
    by_cases h1 : p.1 = x
    · rw [if_pos h1]
      simp only [sget]
      by_cases h2 : p.1 = y
      · rw [if_pos h2, if_pos (h2.symm.trans h1)]
      · rw [if_neg h2, if_neg (fun e => h2 (h1.trans e.symm)), if_neg h2]
    · rw [if_neg h1]
      simp only [sget]
      by_cases h2 : p.1 = y
      · rw [if_pos h2, if_neg (fun e => h1 (h2.trans e)), if_pos h2]
      · rw [if_neg h2, if_neg h2, ih]
theorem sput_mem {p : Str × α} : ∀ {l : List (Str × α)}, p ∈ sput l x v → p = (x, v) ∨ p ∈ l
  | [], h => by simp [sput] at h; exact .inl h
  | q :: r, h => by
    simp only [sput] at h
    split at h
    · rename_i e
      rcases List.mem_cons.mp h with h | h
      · left; rw [h, e]
      · exact .inr (List.mem_cons_of_mem _ h)
    · rcases List.mem_cons.mp h with h | h
      · subst h; exact .inr (List.mem_cons_self ..)
      · rcases sput_mem h with h | h
        · exact .inl h
        · exact .inr (List.mem_cons_of_mem _ h)
theorem sput_keys {z : Str} (h : z ∈ (sput l x v).map (·.1)) : z = x ∨ z ∈ l.map (·.1) := by
  obtain ⟨p, hp, rfl⟩ := List.mem_map.mp h
  rcases sput_mem hp with h | h
  · subst h; exact .inl rfl
  · exact .inr (List.mem_map.mpr ⟨p, h, rfl⟩)
theorem sput_nd : ∀ {l : List (Str × α)}, (l.map (·.1)).Nodup → ((sput l x v).map (·.1)).Nodup
  | [], _ => by simp [sput]
  | p :: r, h => by
    simp only [List.map_cons, List.nodup_cons] at h
    simp only [sput]
    split
    · simp only [List.map_cons, List.nodup_cons]; exact h
    · rename_i e
      simp only [List.map_cons, List.nodup_cons]
      refine ⟨fun hm => ?_, sput_nd h.2⟩
      rcases sput_keys hm with h1 | h1
      · exact e h1
      · exact h.1 h1
theorem sput_in {z : Str} : ∀ {l : List (Str × α)}, z = x ∨ z ∈ l.map (·.1) → z ∈ (sput l x v).map (·.1)
  | [], h => by
    rcases h with h | h
    · subst h; simp [sput]
    · cases h
  | p :: r, h => by
    simp only [sput]
    split
    · rename_i e
      rcases h with h | h
      · subst h; simp [e]
      · simpa using h
    · rw [List.map_cons, List.mem_cons]
      rw [List.map_cons, List.mem_cons] at h
      rcases h with h | h | h
      · exact .inr (sput_in (.inl h))
      · exact .inl h
      · exact .inr (sput_in (.inr h))
theorem sput_len : (sput l x v).length ≤ l.length + 1 := by
  induction l with
  | nil => simp [sput]
  | cons p r ih =>
    simp only [sput]
    split
    · simp
    · simp only [List.length_cons]; omega
theorem sget_mem : ∀ {l : List (Str × α)}, (l.map (·.1)).Nodup → ∀ {p : Str × α}, p ∈ l → sget l p.1 = some p.2
  | [], _, p, h => by cases h
  | q :: r, hn, p, h => by
    simp only [List.map_cons, List.nodup_cons] at hn
    simp only [sget]
    rcases List.mem_cons.mp h with h | h
    · subst h; simp
    · rw [if_neg fun e => hn.1 (by rw [e]; exact List.mem_map.mpr ⟨p, h, rfl⟩)]
      exact sget_mem hn.2 h
theorem sget_key : ∀ {l : List (Str × α)}, x ∈ l.map (·.1) → ∃ v, sget l x = some v ∧ (x, v) ∈ l
  | [], h => by cases h
  | q :: r, h => by
    simp only [sget]
    by_cases e : q.1 = x
    · rw [if_pos e]; exact ⟨_, rfl, by rw [← e]; exact List.mem_cons_self ..⟩
    · rw [if_neg e]
      rw [List.map_cons] at h
      rcases List.mem_cons.mp h with h | h
      · exact absurd h.symm e
      · obtain ⟨v, h1, h2⟩ := sget_key (l := r) h
        exact ⟨v, h1, List.mem_cons_of_mem _ h2⟩
theorem sput_new : ∀ {l : List (Str × α)}, x ∉ l.map (·.1) → sput l x v = l ++ [(x, v)]
  | [], _ => rfl
  | q :: r, h => by
    simp only [List.map_cons, List.mem_cons, not_or] at h
    simp only [sput]
    rw [if_neg fun e => h.1 e.symm, sput_new h.2]
    rfl
theorem pairs_enc : ∀ {l acc : List (Str × α)} {K : List (D × D) → Prop}, ((acc ++ l).map (·.1)).Nodup → (pairsW (l.map fun p => .tup [.str p.1, f p.2]) (enc f acc) K ↔ K (enc f (acc ++ l)))
  | [], acc, K, _ => by simp [pairsW]
  | p :: r, acc, K, h => by
    have h2 : (((acc ++ [(p.1, p.2)]) ++ r).map (·.1)).Nodup := by simpa using h
    have hn : p.1 ∉ acc.map (·.1) := by
      intro hm
      rw [List.map_append, List.nodup_append] at h
      exact h.2.2 _ hm p.1 (by simp) rfl
    simp only [List.map_cons, pairsW, plainK, ex_some]
    rw [dput_enc, sput_new hn, pairs_enc h2]
    simp
theorem leaf_enc : leafKeys (enc f l) = true := by
  unfold leafKeys enc
  simp [plainK]
theorem enc_rev : (enc f l).reverse = enc f l.reverse := by simp [enc]
theorem enc_len : (enc f l).length = l.length := by simp [enc]
theorem items_enc : ((enc f l).map fun p => D.tup [p.1, p.2]) = l.map fun p => .tup [.str p.1, f p.2] := by simp [enc]
end
/-! equality of dicts of ints -/
abbrev encI := enc D.int
theorem dsub_self {l l2 : List (Str × Int)} (h : ∀ p ∈ l, sget l2 p.1 = some p.2) : dsub (encI l) (encI l2) = true := by
  induction l with
  | nil => rfl
  | cons p r ih =>
    have h1 := h p (List.mem_cons_self ..)
    have h2 := ih fun q hq => h q (List.mem_cons_of_mem _ hq)
    show dsub ((.str p.1, .int p.2) :: encI r) (encI l2) = true
    simp only [dsub, s_key1, dget_enc, h1, Option.map_some, deq, numD, h2, Bool.and_true, decide_eq_true_eq]
theorem deq_dict {l : List (Str × Int)} (h : (l.map (·.1)).Nodup) : deq (.dct (encI l)) (.dct (encI l)) = true := by
  simp only [deq, decide_true, Bool.true_and]
  exact dsub_self fun p hp => sget_mem h hp
theorem comp_dict (l l2 : List (Str × Int)) : comp (.dct (encI l)) (.dct (encI l2)) = true := by
  simp only [comp]
  induction l with
  | nil => rfl
  | cons p r ih =>
    show compk ((.str p.1, .int p.2) :: encI r) (encI l2) = true
    simp only [compk, s_key1, dget_enc, ih, Bool.and_true]
    cases sget l2 p.1 with
    | none => rfl
    | some v => rfl
theorem dep_dict (l : List (Str × Int)) : depD (.dct (encI l)) = 1 := by
  simp only [depD]
  have : depDk (encI l) = 0 := by
    induction l with
    | nil => rfl
    | cons p r ih =>
      show depDk ((.str p.1, .int p.2) :: encI r) = 0
      simp [depDk, depD, ih]
  omega
end DS
/-! DS22: the head of every law. -/
namespace DS
open PySem PySem.Spec PyProof.Rows L2
theorem cut_ints (ns : List Int) (k : Int) : ∃ ms : List Int, cutL (ns.map D.int) none (some k) = ms.map .int ∧ ms.length ≤ ns.length := by
  unfold cutL
  simp only [← List.map_take, ← List.map_drop]
  exact ⟨_, rfl, by simp; omega⟩
theorem zip_ints : ∀ (ms : List Int) (j n : Nat), j + ms.length ≤ n → ∃ l : List (Nat × Int), ((ms.map D.int).zipIdx j).map (fun p => D.tup [D.int (p.2 : Nat), p.1]) = l.map (fun p => .tup [.int (p.1 : Nat), .int p.2]) ∧ ∀ p ∈ l, p.1 < n
  | [], _, _, _ => ⟨[], rfl, fun p h => by cases h⟩
  | m :: ms, j, n, h => by
    simp only [List.length_cons] at h
    obtain ⟨l, e, hl⟩ := zip_ints ms (j + 1) n (by omega)
    refine ⟨(j, m) :: l, by simp only [List.map_cons, List.zipIdx_cons, e], fun p hp => ?_⟩
    rcases List.mem_cons.1 hp with rfl | hp
    · show j < n; omega
    · exact hl p hp
theorem cut_to {α : Type} {xs : List α} {q : Int} (h : 0 ≤ q) : cutL xs none (some q) = xs.take q.toNat := by
  obtain ⟨n, rfl⟩ : ∃ n : Nat, q = n := ⟨q.toNat, by omega⟩
  unfold cutL
  rw [HT.sIx_none, HT.sIx_nat, List.drop_zero, Nat.sub_zero]
  simp [List.take_eq_take_iff]
theorem cut_from {α : Type} {xs : List α} {q : Int} (h : 0 ≤ q) : cutL xs (some q) none = xs.drop q.toNat := by
  obtain ⟨n, rfl⟩ : ∃ n : Nat, q = n := ⟨q.toNat, by omega⟩
  unfold cutL
  rw [HT.sIx_none, HT.sIx_nat]
  rw [List.take_of_length_le (by simp)]
  by_cases h : n ≤ xs.length
  · simp [Nat.min_eq_left h]
  · have h1 : xs.length ≤ n := by omega
    simp [List.drop_eq_nil_of_le, h1]
theorem pairs_enc0 {α : Type} {f : α → D} {l : List (Str × α)} {K : List (D × D) → Prop} (h : (l.map (·.1)).Nodup) : (pairsW (l.map fun p => .tup [.str p.1, f p.2]) [] K ↔ K (enc f l)) := pairs_enc (acc := []) (by simpa using h)
theorem nd_rev {α : Type} {l : List (Str × α)} (h : (l.map (·.1)).Nodup) : (l.reverse.map (·.1)).Nodup := by
  rw [List.map_reverse]; exact (List.reverse_perm _).nodup_iff.2 h
theorem sget_rev {α : Type} {l : List (Str × α)} {x : Str} {v : α} (hn : (l.map (·.1)).Nodup) (h : (x, v) ∈ l) : sget l.reverse x = some v := sget_mem (l := l.reverse) (p := (x, v)) (by rw [List.map_reverse]; exact (List.reverse_perm _).nodup_iff.2 hn) (List.mem_reverse.2 h)
theorem sget_in {α : Type} : ∀ {l : List (Str × α)} {x : Str} {v : α}, sget l x = some v → (x, v) ∈ l
  | [], _, _, h => by cases h
  | p :: r, x, v, h => by
    simp only [sget] at h
    split at h
    · rename_i e
      injection h with h
      subst h; subst e
      exact List.mem_cons_self ..
    · exact List.mem_cons_of_mem _ (sget_in h)
theorem cmp_int {a b : Int} : cmpOk (.int a) (.int b) := ⟨rfl, by simp [depD]⟩
theorem deq_int {a b : Int} : deq (.int a) (.int b) = decide (a = b) := rfl
theorem isb_int {i : Int} : ["bool"].any (isTy (.int i)) = false := rfl
theorem cmp_int' {a b : Int} : (cmpOk (.int a) (.int b)) = True := eq_true cmp_int
theorem deq_same {a : Int} : deq (.int a) (.int a) = true := by rw [deq_int]; simp
theorem tf : ((true == false) = true) = False := by simp
theorem ff : ((false == false) = true) = True := by simp
theorem ft : ((false == true) = true) = False := by simp
theorem tt : ((true == true) = true) = True := by simp
theorem deq_tup {xs ys : List D} : deq (.tup xs) (.tup ys) = deqs xs ys := by simp only [deq]
theorem deq_lst {xs ys : List D} : deq (.lst xs) (.lst ys) = deqs xs ys := by simp only [deq]
theorem deqs_cons {x y : D} {xs ys : List D} : deqs (x :: xs) (y :: ys) = (deq x y && deqs xs ys) := by simp only [deqs]
theorem deqs_nil : deqs [] [] = true := rfl
theorem comp_tup {xs ys : List D} : comp (.tup xs) (.tup ys) = comps xs ys := by simp only [comp]
theorem comps_cons {x y : D} {xs ys : List D} : comps (x :: xs) (y :: ys) = (comp x y && comps xs ys) := by simp only [comps]
theorem comps_nil : comps [] [] = true := rfl
theorem comp_int {a b : Int} : comp (.int a) (.int b) = true := rfl
abbrev heads (k : Nat) (B T : List S) : List S := .fo .enm [.slc (.orE (.var 0) (.op .lst [.con (.int 5)])) [] [.con (.int k)]] (.t [.n 1, .n 2]) B :: T
theorem head_of {Γ : Gam} {n k : Nat} {B T : List S} (hn : 3 ≤ n)
    (hstep : ∀ (t : Nat) (a : Int) (e : Ev) (L : Ev → Prop) (rt : O → Ev → Prop) (bk : Ev → Prop) (R : Xp → Ev → Prop), e.length = n → t < 64 → (∀ e1, e1.length = n → L e1) → wSs Γ B ((e.set 1 (some (.pu (.int t)))).set 2 (some (.pu (.int a)))) ⟨L, rt, bk, L⟩ R)
    (hend : ∀ (e : Ev) (nx : Ev → Prop) (rt : O → Ev → Prop) (bk ct : Ev → Prop) (R : Xp → Ev → Prop), e.length = n → (∀ e1, rt (.pu (.bl true)) e1) → wSs Γ T e ⟨nx, rt, bk, ct⟩ R) :
    Fn.Ok Γ ⟨n, 1, [], heads k B T⟩ fsLaw := by
  rintro args K R ⟨ns, rfl, hns, hk⟩
  refine ⟨rfl, ?_⟩
  have hz := sizeLine_eq
  have main : ∀ (ms : List Int) (e : Ev) (nx : Ev → Prop) (rt : O → Ev → Prop) (bk ct : Ev → Prop) (R' : Xp → Ev → Prop), ms.length ≤ 63 → e.length = n → (∀ e1, rt (.pu (.bl true)) e1) → ∀ (f : D → Ev → KS → Prop), (∀ d e K2, f d e K2 = (bindT (.t [.n 1, .n 2]) d e fun e3 => wSs Γ B e3 K2 R')) → loopW f (((ms.map D.int).zipIdx 0).map (fun p => D.tup [D.int (p.2 : Nat), p.1])) e ⟨fun e1 => wSs Γ T e1 ⟨nx, rt, bk, ct⟩ R', rt, bk, ct⟩ := by
    intro ms e nx rt bk ct R' hm he hk' f hf
    obtain ⟨l, el, hl⟩ := zip_ints ms 0 64 (by omega)
    rw [el]
    refine loopW_of (fun items e => e.length = n ∧ ∃ l : List (Nat × Int), items = l.map (fun p => .tup [.int (p.1 : Nat), .int p.2]) ∧ ∀ p ∈ l, p.1 < 64) ?_ ?_ _ _ ⟨he, l, rfl, hl⟩
    · rintro e ⟨he, _⟩
      exact hend e _ _ _ _ _ he hk'
    · rintro d ds e L ⟨he, l, h1, h2⟩ hL
      cases l with
      | nil => cases h1
      | cons p l =>
        simp only [List.map_cons, List.cons.injEq] at h1
        obtain ⟨rfl, rfl⟩ := h1
        rw [hf]
        simp only [DS.wSs, DS.wS, DS.wE, DS.wEs, DS.wAs, DS.wOI, DS.wCs, DS.asK, DS.tkD, DS.avIos, DS.putOs, DS.setAll, DS.opW, DS.bindT, DS.bindTs, DS.startE, DS.mTy, DS.ex_some, DS.ex_publ, DS.ex_int, DS.ex_int2, DS.ex_tup, DS.s_add1, DS.s_add2, DS.s_add3, DS.s_add4, DS.s_sub, DS.s_mul1, DS.s_mul2, DS.s_fdiv, DS.s_mod, DS.s_pow, DS.s_neg, DS.s_cmp1, DS.s_cmp2, DS.s_eq, DS.s_isN, DS.s_in1, DS.s_in2, DS.s_in3, DS.s_in4, DS.s_idx1, DS.s_idx2, DS.s_idx3, DS.s_idx4, DS.s_slc1, DS.s_slc2, DS.s_slc3, DS.s_slc4, DS.s_rev, DS.s_len1, DS.s_len2, DS.s_len3, DS.s_len4, DS.s_len5, DS.s_list1, DS.s_list2, DS.s_list3, DS.s_tuple1, DS.s_tuple2, DS.s_dict1, DS.s_dict2, DS.s_max2, DS.s_min2, DS.s_abs, DS.s_isi, DS.s_sum, DS.s_join, DS.s_upper, DS.s_items, DS.s_vals, DS.s_all, DS.s_str1, DS.s_str2, DS.s_str3, DS.s_int1, DS.s_int2, DS.s_get1, DS.s_get2, DS.s_dct0, DS.s_fz1, DS.s_fz2, DS.s_fz3, DS.s_bf1, DS.s_bf2, DS.s_bf3, DS.s_tr0, DS.s_tr1, DS.s_tr2, DS.s_tr3, DS.s_tr4, DS.s_tr5, DS.s_tr6, DS.s_av0, DS.s_av1, DS.s_av2, DS.s_ag0, DS.s_ag1, DS.s_ag2, DS.s_ty1, DS.s_ty2, DS.s_ty3, DS.s_ix0, DS.s_at0, DS.ex_cons, DS.s_dep1, DS.s_dep2, DS.s_dep3, DS.s_key1, DS.s_key2, DS.s_key3, DS.s_ot0, DS.ex_one, DS.s_ot1, DS.s_sq1, DS.s_sq2, DS.s_sq3, DS.s_sq4, DS.s_rg1, DS.s_rg2, DS.s_en, DS.s_it, DS.s_vl, List.map_cons, List.map_nil, List.cons_append, List.nil_append, List.length_cons, List.length_nil, List.replicate, Nat.add_one_sub_one, Nat.reduceAdd, Nat.reduceSub, List.append_nil, List.getElem?_cons_zero, List.getElem?_cons_succ, List.set_cons_zero, List.set_cons_succ, Option.map_some, Option.some.injEq, exists_eq_left', exists_eq', exists_eq_left, DS.O.pu.injEq, DS.O.fl.injEq, DS.O.fd.injEq, DS.wipeE, DS.backE, Option.getD_some, Option.getD_none, DS.D.bl.injEq, true_and, and_true, if_true, if_false, reduceCtorEq, Bool.false_eq_true, List.nodup_nil, List.nodup_cons, List.not_mem_nil, not_false_eq_true, exists_const, DS.s_at20, DS.s_at21, DS.s_at30, DS.s_at31, DS.s_at32, DS.s_revt]
        exact hstep p.1 p.2 e L _ _ _ he (h2 p (List.mem_cons_self ..)) fun e1 h => hL e1 ⟨h, l, rfl, fun q hq => h2 q (List.mem_cons_of_mem _ hq)⟩
  have hl0 : (startE n [.pu (.scr (ns.map D.int))]).length = n := by simp [startE]; omega
  have h0 : (startE n [.pu (.scr (ns.map D.int))])[0]? = some (some (.pu (.scr (ns.map D.int)))) := by simp [startE]
  obtain ⟨m1, e1, l1⟩ := cut_ints ns k
  obtain ⟨m2, e2, l2⟩ := cut_ints [5] k
  have o1 : 1 ≤ sizeLine := by omega
  generalize startE n [.pu (.scr (ns.map D.int))] = e0 at hl0 h0
  unfold heads
  simp only [wSs, DS.wSs, DS.wS, DS.wE, DS.wEs, DS.wAs, DS.wOI, DS.wCs, DS.asK, DS.tkD, DS.avIos, DS.putOs, DS.setAll, DS.opW, DS.bindT, DS.bindTs, DS.startE, DS.mTy, DS.ex_some, DS.ex_publ, DS.ex_int, DS.ex_int2, DS.ex_tup, DS.s_add1, DS.s_add2, DS.s_add3, DS.s_add4, DS.s_sub, DS.s_mul1, DS.s_mul2, DS.s_fdiv, DS.s_mod, DS.s_pow, DS.s_neg, DS.s_cmp1, DS.s_cmp2, DS.s_eq, DS.s_isN, DS.s_in1, DS.s_in2, DS.s_in3, DS.s_in4, DS.s_idx1, DS.s_idx2, DS.s_idx3, DS.s_idx4, DS.s_slc1, DS.s_slc2, DS.s_slc3, DS.s_slc4, DS.s_rev, DS.s_len1, DS.s_len2, DS.s_len3, DS.s_len4, DS.s_len5, DS.s_list1, DS.s_list2, DS.s_list3, DS.s_tuple1, DS.s_tuple2, DS.s_dict1, DS.s_dict2, DS.s_max2, DS.s_min2, DS.s_abs, DS.s_isi, DS.s_sum, DS.s_join, DS.s_upper, DS.s_items, DS.s_vals, DS.s_all, DS.s_str1, DS.s_str2, DS.s_str3, DS.s_int1, DS.s_int2, DS.s_get1, DS.s_get2, DS.s_dct0, DS.s_fz1, DS.s_fz2, DS.s_fz3, DS.s_bf1, DS.s_bf2, DS.s_bf3, DS.s_tr0, DS.s_tr1, DS.s_tr2, DS.s_tr3, DS.s_tr4, DS.s_tr5, DS.s_tr6, DS.s_av0, DS.s_av1, DS.s_av2, DS.s_ag0, DS.s_ag1, DS.s_ag2, DS.s_ty1, DS.s_ty2, DS.s_ty3, DS.s_ix0, DS.s_at0, DS.ex_cons, DS.s_dep1, DS.s_dep2, DS.s_dep3, DS.s_key1, DS.s_key2, DS.s_key3, DS.s_ot0, DS.ex_one, DS.s_ot1, DS.s_sq1, DS.s_sq2, DS.s_sq3, DS.s_sq4, DS.s_rg1, DS.s_rg2, DS.s_en, DS.s_it, DS.s_vl, List.map_cons, List.map_nil, List.cons_append, List.nil_append, List.length_cons, List.length_nil, List.replicate, Nat.add_one_sub_one, Nat.reduceAdd, Nat.reduceSub, List.append_nil, List.getElem?_cons_zero, List.getElem?_cons_succ, List.set_cons_zero, List.set_cons_succ, Option.map_some, Option.some.injEq, exists_eq_left', exists_eq', exists_eq_left, DS.O.pu.injEq, DS.O.fl.injEq, DS.O.fd.injEq, DS.wipeE, DS.backE, Option.getD_some, Option.getD_none, DS.D.bl.injEq, true_and, and_true, if_true, if_false, reduceCtorEq, Bool.false_eq_true, List.nodup_nil, List.nodup_cons, List.not_mem_nil, not_false_eq_true, exists_const, DS.s_at20, DS.s_at21, DS.s_at30, DS.s_at31, DS.s_at32, DS.s_revt, h0]
  have e3 : cutL [D.int 5] none (some (k : Int)) = m2.map .int := e2
  simp only [e1, e3, o1, true_and]
  split
  · refine main m1 _ _ (fun o _ => K o []) _ _ (fun x e => R x []) (by omega) (by simpa using hl0) (fun _ => hk) _ ?_
    intro d e K2; simp only [DS.wSs, DS.wS, DS.wE, DS.wEs, DS.wAs, DS.wOI, DS.wCs, DS.asK, DS.tkD, DS.avIos, DS.putOs, DS.setAll, DS.opW, DS.bindT, DS.bindTs, DS.startE, DS.mTy, DS.ex_some, DS.ex_publ, DS.ex_int, DS.ex_int2, DS.ex_tup, DS.s_add1, DS.s_add2, DS.s_add3, DS.s_add4, DS.s_sub, DS.s_mul1, DS.s_mul2, DS.s_fdiv, DS.s_mod, DS.s_pow, DS.s_neg, DS.s_cmp1, DS.s_cmp2, DS.s_eq, DS.s_isN, DS.s_in1, DS.s_in2, DS.s_in3, DS.s_in4, DS.s_idx1, DS.s_idx2, DS.s_idx3, DS.s_idx4, DS.s_slc1, DS.s_slc2, DS.s_slc3, DS.s_slc4, DS.s_rev, DS.s_len1, DS.s_len2, DS.s_len3, DS.s_len4, DS.s_len5, DS.s_list1, DS.s_list2, DS.s_list3, DS.s_tuple1, DS.s_tuple2, DS.s_dict1, DS.s_dict2, DS.s_max2, DS.s_min2, DS.s_abs, DS.s_isi, DS.s_sum, DS.s_join, DS.s_upper, DS.s_items, DS.s_vals, DS.s_all, DS.s_str1, DS.s_str2, DS.s_str3, DS.s_int1, DS.s_int2, DS.s_get1, DS.s_get2, DS.s_dct0, DS.s_fz1, DS.s_fz2, DS.s_fz3, DS.s_bf1, DS.s_bf2, DS.s_bf3, DS.s_tr0, DS.s_tr1, DS.s_tr2, DS.s_tr3, DS.s_tr4, DS.s_tr5, DS.s_tr6, DS.s_av0, DS.s_av1, DS.s_av2, DS.s_ag0, DS.s_ag1, DS.s_ag2, DS.s_ty1, DS.s_ty2, DS.s_ty3, DS.s_ix0, DS.s_at0, DS.ex_cons, DS.s_dep1, DS.s_dep2, DS.s_dep3, DS.s_key1, DS.s_key2, DS.s_key3, DS.s_ot0, DS.ex_one, DS.s_ot1, DS.s_sq1, DS.s_sq2, DS.s_sq3, DS.s_sq4, DS.s_rg1, DS.s_rg2, DS.s_en, DS.s_it, DS.s_vl, List.map_cons, List.map_nil, List.cons_append, List.nil_append, List.length_cons, List.length_nil, List.replicate, Nat.add_one_sub_one, Nat.reduceAdd, Nat.reduceSub, List.append_nil, List.getElem?_cons_zero, List.getElem?_cons_succ, List.set_cons_zero, List.set_cons_succ, Option.map_some, Option.some.injEq, exists_eq_left', exists_eq', exists_eq_left, DS.O.pu.injEq, DS.O.fl.injEq, DS.O.fd.injEq, DS.wipeE, DS.backE, Option.getD_some, Option.getD_none, DS.D.bl.injEq, true_and, and_true, if_true, if_false, reduceCtorEq, Bool.false_eq_true, List.nodup_nil, List.nodup_cons, List.not_mem_nil, not_false_eq_true, exists_const, DS.s_at20, DS.s_at21, DS.s_at30, DS.s_at31, DS.s_at32, DS.s_revt]
  · refine main m2 _ _ (fun o _ => K o []) _ _ (fun x e => R x []) (by simp at l2; omega) (by simpa using hl0) (fun _ => hk) _ ?_
    intro d e K2; simp only [DS.wSs, DS.wS, DS.wE, DS.wEs, DS.wAs, DS.wOI, DS.wCs, DS.asK, DS.tkD, DS.avIos, DS.putOs, DS.setAll, DS.opW, DS.bindT, DS.bindTs, DS.startE, DS.mTy, DS.ex_some, DS.ex_publ, DS.ex_int, DS.ex_int2, DS.ex_tup, DS.s_add1, DS.s_add2, DS.s_add3, DS.s_add4, DS.s_sub, DS.s_mul1, DS.s_mul2, DS.s_fdiv, DS.s_mod, DS.s_pow, DS.s_neg, DS.s_cmp1, DS.s_cmp2, DS.s_eq, DS.s_isN, DS.s_in1, DS.s_in2, DS.s_in3, DS.s_in4, DS.s_idx1, DS.s_idx2, DS.s_idx3, DS.s_idx4, DS.s_slc1, DS.s_slc2, DS.s_slc3, DS.s_slc4, DS.s_rev, DS.s_len1, DS.s_len2, DS.s_len3, DS.s_len4, DS.s_len5, DS.s_list1, DS.s_list2, DS.s_list3, DS.s_tuple1, DS.s_tuple2, DS.s_dict1, DS.s_dict2, DS.s_max2, DS.s_min2, DS.s_abs, DS.s_isi, DS.s_sum, DS.s_join, DS.s_upper, DS.s_items, DS.s_vals, DS.s_all, DS.s_str1, DS.s_str2, DS.s_str3, DS.s_int1, DS.s_int2, DS.s_get1, DS.s_get2, DS.s_dct0, DS.s_fz1, DS.s_fz2, DS.s_fz3, DS.s_bf1, DS.s_bf2, DS.s_bf3, DS.s_tr0, DS.s_tr1, DS.s_tr2, DS.s_tr3, DS.s_tr4, DS.s_tr5, DS.s_tr6, DS.s_av0, DS.s_av1, DS.s_av2, DS.s_ag0, DS.s_ag1, DS.s_ag2, DS.s_ty1, DS.s_ty2, DS.s_ty3, DS.s_ix0, DS.s_at0, DS.ex_cons, DS.s_dep1, DS.s_dep2, DS.s_dep3, DS.s_key1, DS.s_key2, DS.s_key3, DS.s_ot0, DS.ex_one, DS.s_ot1, DS.s_sq1, DS.s_sq2, DS.s_sq3, DS.s_sq4, DS.s_rg1, DS.s_rg2, DS.s_en, DS.s_it, DS.s_vl, List.map_cons, List.map_nil, List.cons_append, List.nil_append, List.length_cons, List.length_nil, List.replicate, Nat.add_one_sub_one, Nat.reduceAdd, Nat.reduceSub, List.append_nil, List.getElem?_cons_zero, List.getElem?_cons_succ, List.set_cons_zero, List.set_cons_succ, Option.map_some, Option.some.injEq, exists_eq_left', exists_eq', exists_eq_left, DS.O.pu.injEq, DS.O.fl.injEq, DS.O.fd.injEq, DS.wipeE, DS.backE, Option.getD_some, Option.getD_none, DS.D.bl.injEq, true_and, and_true, if_true, if_false, reduceCtorEq, Bool.false_eq_true, List.nodup_nil, List.nodup_cons, List.not_mem_nil, not_false_eq_true, exists_const, DS.s_at20, DS.s_at21, DS.s_at30, DS.s_at31, DS.s_at32, DS.s_revt]
theorem p_non  : (plainTy (.non) = true) = True := by simp [plainTy]
theorem i_int_non  : (["int"].any (isTy (.non))) = false := rfl
theorem i_bool_non  : (["bool"].any (isTy (.non))) = false := rfl
theorem i_str_non  : (["str"].any (isTy (.non))) = false := rfl
theorem i_tuple_non  : (["tuple"].any (isTy (.non))) = false := rfl
theorem i_list_non  : (["list"].any (isTy (.non))) = false := rfl
theorem i_dict_non  : (["dict"].any (isTy (.non))) = false := rfl
theorem i_lt_non  : (["list", "tuple"].any (isTy (.non))) = false := rfl
theorem p_bl {b : Bool} : (plainTy (.bl b) = true) = True := by simp [plainTy]
theorem i_int_bl {b : Bool} : (["int"].any (isTy (.bl b))) = true := rfl
theorem i_bool_bl {b : Bool} : (["bool"].any (isTy (.bl b))) = true := rfl
theorem i_str_bl {b : Bool} : (["str"].any (isTy (.bl b))) = false := rfl
theorem i_tuple_bl {b : Bool} : (["tuple"].any (isTy (.bl b))) = false := rfl
theorem i_list_bl {b : Bool} : (["list"].any (isTy (.bl b))) = false := rfl
theorem i_dict_bl {b : Bool} : (["dict"].any (isTy (.bl b))) = false := rfl
theorem i_lt_bl {b : Bool} : (["list", "tuple"].any (isTy (.bl b))) = false := rfl
theorem p_int {i : Int} : (plainTy (.int i) = true) = True := by simp [plainTy]
theorem i_int_int {i : Int} : (["int"].any (isTy (.int i))) = true := rfl
theorem i_bool_int {i : Int} : (["bool"].any (isTy (.int i))) = false := rfl
theorem i_str_int {i : Int} : (["str"].any (isTy (.int i))) = false := rfl
theorem i_tuple_int {i : Int} : (["tuple"].any (isTy (.int i))) = false := rfl
theorem i_list_int {i : Int} : (["list"].any (isTy (.int i))) = false := rfl
theorem i_dict_int {i : Int} : (["dict"].any (isTy (.int i))) = false := rfl
theorem i_lt_int {i : Int} : (["list", "tuple"].any (isTy (.int i))) = false := rfl
theorem p_str {z : Str} : (plainTy (.str z) = true) = True := by simp [plainTy]
theorem i_int_str {z : Str} : (["int"].any (isTy (.str z))) = false := rfl
theorem i_bool_str {z : Str} : (["bool"].any (isTy (.str z))) = false := rfl
theorem i_str_str {z : Str} : (["str"].any (isTy (.str z))) = true := rfl
theorem i_tuple_str {z : Str} : (["tuple"].any (isTy (.str z))) = false := rfl
theorem i_list_str {z : Str} : (["list"].any (isTy (.str z))) = false := rfl
theorem i_dict_str {z : Str} : (["dict"].any (isTy (.str z))) = false := rfl
theorem i_lt_str {z : Str} : (["list", "tuple"].any (isTy (.str z))) = false := rfl
theorem p_lst {xs : List D} : (plainTy (.lst xs) = true) = True := by simp [plainTy]
theorem i_int_lst {xs : List D} : (["int"].any (isTy (.lst xs))) = false := rfl
theorem i_bool_lst {xs : List D} : (["bool"].any (isTy (.lst xs))) = false := rfl
theorem i_str_lst {xs : List D} : (["str"].any (isTy (.lst xs))) = false := rfl
theorem i_tuple_lst {xs : List D} : (["tuple"].any (isTy (.lst xs))) = false := rfl
theorem i_list_lst {xs : List D} : (["list"].any (isTy (.lst xs))) = true := rfl
theorem i_dict_lst {xs : List D} : (["dict"].any (isTy (.lst xs))) = false := rfl
theorem i_lt_lst {xs : List D} : (["list", "tuple"].any (isTy (.lst xs))) = true := rfl
theorem p_tup {xs : List D} : (plainTy (.tup xs) = true) = True := by simp [plainTy]
theorem i_int_tup {xs : List D} : (["int"].any (isTy (.tup xs))) = false := rfl
theorem i_bool_tup {xs : List D} : (["bool"].any (isTy (.tup xs))) = false := rfl
theorem i_str_tup {xs : List D} : (["str"].any (isTy (.tup xs))) = false := rfl
theorem i_tuple_tup {xs : List D} : (["tuple"].any (isTy (.tup xs))) = true := rfl
theorem i_list_tup {xs : List D} : (["list"].any (isTy (.tup xs))) = false := rfl
theorem i_dict_tup {xs : List D} : (["dict"].any (isTy (.tup xs))) = false := rfl
theorem i_lt_tup {xs : List D} : (["list", "tuple"].any (isTy (.tup xs))) = true := rfl
theorem p_dct {kvs : List (D × D)} : (plainTy (.dct kvs) = true) = True := by simp [plainTy]
theorem i_int_dct {kvs : List (D × D)} : (["int"].any (isTy (.dct kvs))) = false := rfl
theorem i_bool_dct {kvs : List (D × D)} : (["bool"].any (isTy (.dct kvs))) = false := rfl
theorem i_str_dct {kvs : List (D × D)} : (["str"].any (isTy (.dct kvs))) = false := rfl
theorem i_tuple_dct {kvs : List (D × D)} : (["tuple"].any (isTy (.dct kvs))) = false := rfl
theorem i_list_dct {kvs : List (D × D)} : (["list"].any (isTy (.dct kvs))) = false := rfl
theorem i_dict_dct {kvs : List (D × D)} : (["dict"].any (isTy (.dct kvs))) = true := rfl
theorem i_lt_dct {kvs : List (D × D)} : (["list", "tuple"].any (isTy (.dct kvs))) = false := rfl
theorem ite_tt {a b : Prop} : (if true = true then a else b) = a := if_pos rfl
theorem ite_ff {a b : Prop} : (if false = true then a else b) = b := if_neg (by decide)
def fBegin : Fn := ⟨2, 2, [], [.ret (.op .lst [.op .max2 [.con (.int 0), .op .sub [.io 0, .op .pow [.con (.int 10), .con (.int 18)]]], .op .add [.io 0, .op .mul [.con (.int 977), .io 1]], .con (.int 0)])]⟩
def fsBegin : FS := fun args K R => ∃ a b : Int, args = [.pu (.int a), .pu (.int b)] ∧ b.natAbs < 1000 ∧ ∀ s, Stt 0 s → K (.fl s) []
theorem ok_begin {Γ : Gam} : Fn.Ok Γ fBegin fsBegin := by
  rintro args K R ⟨a, b, rfl, hb, hk⟩
  refine ⟨rfl, ?_⟩
  unfold fBegin
  simp only [DS.wSs, DS.wS, DS.wE, DS.wEs, DS.wAs, DS.wOI, DS.wCs, DS.asK, DS.tkD, DS.avIos, DS.putOs, DS.setAll, DS.opW, DS.bindT, DS.bindTs, DS.startE, DS.mTy, DS.ex_some, DS.ex_publ, DS.ex_int, DS.ex_int2, DS.ex_tup, DS.s_add1, DS.s_add2, DS.s_add3, DS.s_add4, DS.s_sub, DS.s_mul1, DS.s_mul2, DS.s_fdiv, DS.s_mod, DS.s_pow, DS.s_neg, DS.s_cmp1, DS.s_cmp2, DS.s_eq, DS.s_isN, DS.s_in1, DS.s_in2, DS.s_in3, DS.s_in4, DS.s_idx1, DS.s_idx2, DS.s_idx3, DS.s_idx4, DS.s_slc1, DS.s_slc2, DS.s_slc3, DS.s_slc4, DS.s_rev, DS.s_len1, DS.s_len2, DS.s_len3, DS.s_len4, DS.s_len5, DS.s_list1, DS.s_list2, DS.s_list3, DS.s_tuple1, DS.s_tuple2, DS.s_dict1, DS.s_dict2, DS.s_max2, DS.s_min2, DS.s_abs, DS.s_isi, DS.s_sum, DS.s_join, DS.s_upper, DS.s_items, DS.s_vals, DS.s_all, DS.s_str1, DS.s_str2, DS.s_str3, DS.s_int1, DS.s_int2, DS.s_get1, DS.s_get2, DS.s_dct0, DS.s_fz1, DS.s_fz2, DS.s_fz3, DS.s_bf1, DS.s_bf2, DS.s_bf3, DS.s_tr0, DS.s_tr1, DS.s_tr2, DS.s_tr3, DS.s_tr4, DS.s_tr5, DS.s_tr6, DS.s_av0, DS.s_av1, DS.s_av2, DS.s_ag0, DS.s_ag1, DS.s_ag2, DS.s_ty1, DS.s_ty2, DS.s_ty3, DS.s_ix0, DS.s_at0, DS.ex_cons, DS.s_dep1, DS.s_dep2, DS.s_dep3, DS.s_key1, DS.s_key2, DS.s_key3, DS.s_ot0, DS.ex_one, DS.s_ot1, DS.s_sq1, DS.s_sq2, DS.s_sq3, DS.s_sq4, DS.s_rg1, DS.s_rg2, DS.s_en, DS.s_it, DS.s_vl, List.map_cons, List.map_nil, List.cons_append, List.nil_append, List.length_cons, List.length_nil, List.replicate, Nat.add_one_sub_one, Nat.reduceAdd, Nat.reduceSub, List.append_nil, List.getElem?_cons_zero, List.getElem?_cons_succ, List.set_cons_zero, List.set_cons_succ, Option.map_some, Option.some.injEq, exists_eq_left', exists_eq', exists_eq_left, DS.O.pu.injEq, DS.O.fl.injEq, DS.O.fd.injEq, DS.wipeE, DS.backE, Option.getD_some, Option.getD_none, DS.D.bl.injEq, true_and, and_true, if_true, if_false, reduceCtorEq, Bool.false_eq_true, List.nodup_nil, List.nodup_cons, List.not_mem_nil, not_false_eq_true, exists_const, DS.s_at20, DS.s_at21, DS.s_at30, DS.s_at31, DS.s_at32, DS.s_revt]
  exact ⟨⟨by decide, by decide⟩, mul_of (a := 10) (b := 10) (by decide) (by omega) (by decide) (by decide) (by decide), by decide, hk _ ⟨_, _, _, rfl, by decide, by decide⟩⟩
end DS
/-! DS23: one sign in a text; order of signs; the names' functions. -/
namespace DS
open PySem PySem.Spec PyProof.Rows L2
theorem subAt_one {z : Str} {c i : Nat} : Builtin.Str.subAt z ⟨#[c]⟩ i = true ↔ (cds z)[i]? = some c := by
  unfold Builtin.Str.subAt
  have e : (z.cps.extract i (i + (⟨#[c]⟩ : Str).length) == (⟨#[c]⟩ : Str).cps) = true ↔ z.cps.extract i (i + 1) = #[c] := by
    rw [beq_iff_eq]; rfl
  rw [e]
  have e2 : z.cps.extract i (i + 1) = #[c] ↔ (z.cps.extract i (i + 1)).toList = [c] := by
    constructor
    · intro h; rw [h]
    · intro h; exact Array.toList_inj.1 h
  rw [e2, Array.toList_extract]
  show List.extract z.cps.toList i (i + 1) = [c] ↔ z.cps.toList[i]? = some c
  rw [List.extract_eq_take_drop]
  simp only [Nat.add_sub_cancel_left]
  by_cases h : i < z.cps.toList.length
  · rw [List.drop_eq_getElem_cons h, List.getElem?_eq_getElem h]
    simp
  · rw [List.drop_eq_nil_of_le (by omega), List.getElem?_eq_none (by omega)]
    simp
theorem occ_one {z : Str} {c : Nat} : (!(Builtin.Str.occurrences z ⟨#[c]⟩ 0 z.length 1).isEmpty) = (cds z).contains c := by
  rcases PySem.StrLaws.occ_head z ⟨#[c]⟩ 1 (Nat.le_refl _) with ⟨h1, h2⟩ | ⟨i, r, h1, h2, _⟩
  · rw [h1]
    symm
    show (cds z).contains c = false
    rw [Bool.eq_false_iff]
    intro hc
    have hm : c ∈ cds z := by simpa using hc
    obtain ⟨i, hi, e⟩ := List.getElem_of_mem hm
    exact h2 i ⟨by show i + 1 ≤ z.length; rw [← cds_len]; omega, subAt_one.2 (by rw [List.getElem?_eq_getElem hi, e])⟩
  · rw [h1]
    symm
    show (cds z).contains c = true
    have := subAt_one.1 h2.2
    simpa using List.mem_of_getElem? this
theorem alph_has {c : Nat} : (cds alph).contains c = (decide (97 ≤ c) && decide (c ≤ 122)) := by
  rw [alph_cds, Bool.eq_iff_iff]
  simp
  constructor
  · rintro ⟨a, h, rfl⟩; omega
  · rintro ⟨h1, h2⟩; exact ⟨c - 97, by omega, by omega⟩
theorem lt_a {c : Nat} : (decide ((cds ⟨#[c]⟩) < (cds (Str.ofString "a")))) = decide (c < 97) := by
  have : cds (Str.ofString "a") = [97] := by decide
  rw [this]
  show decide ([c] < [97]) = _
  rw [Bool.eq_iff_iff]
  simp only [decide_eq_true_eq, List.cons_lt_cons_iff]
  simp
theorem z_lt {c : Nat} : (decide ((cds (Str.ofString "z")) < cds ⟨#[c]⟩)) = decide (122 < c) := by
  have : cds (Str.ofString "z") = [122] := by decide
  rw [this]
  show decide ([122] < [c]) = _
  rw [Bool.eq_iff_iff]
  simp only [decide_eq_true_eq, List.cons_lt_cons_iff]
  simp
/-! the names' functions -/
def isNum (lo hi : Int) : D → Bool
  | .int i => decide (lo ≤ i) && decide (i ≤ hi)
  | _ => false
def isName : D → Bool
  | .str z => isNmB z
  | _ => false
def isTerm : D → Bool
  | .non => true
  | d => isName d
/-- data that the functions may ask about -/
def Askd : D → Prop
  | .scr _ | .ins _ _ | .val _ => False
  | .str z => z.length ≤ sizeLine
  | _ => True
def fNumber : Fn := ⟨3, 3, [], [.ret (.andE (.op (.isi ["int"]) [.io 0]) (.andE (.notE (.op (.isi ["bool"]) [.io 0])) (.chain .le .le (.var 1) (.var 0) (.var 2))))]⟩
def fsNumber : FS := fun args K R => ∃ (d : D) (lo hi : Int), args = [.pu d, .pu (.int lo), .pu (.int hi)] ∧ Askd d ∧ K (.pu (.bl (isNum lo hi d))) []
theorem ok_number {Γ : Gam} : Fn.Ok Γ fNumber fsNumber := by
  rintro args K R ⟨d, lo, hi, rfl, hd, hk⟩
  refine ⟨rfl, ?_⟩
  unfold fNumber
  cases d with
  | ins c fs => cases hd
  | val u => cases hd
  | scr xs => cases hd
  | int i =>
    simp only [DS.wSs, DS.wS, DS.wE, DS.wEs, DS.wAs, DS.wOI, DS.wCs, DS.asK, DS.tkD, DS.avIos, DS.putOs, DS.setAll, DS.opW, DS.bindT, DS.bindTs, DS.startE, DS.mTy, DS.ex_some, DS.ex_publ, DS.ex_int, DS.ex_int2, DS.ex_tup, DS.s_add1, DS.s_add2, DS.s_add3, DS.s_add4, DS.s_sub, DS.s_mul1, DS.s_mul2, DS.s_fdiv, DS.s_mod, DS.s_pow, DS.s_neg, DS.s_cmp1, DS.s_cmp2, DS.s_eq, DS.s_isN, DS.s_in1, DS.s_in2, DS.s_in3, DS.s_in4, DS.s_idx1, DS.s_idx2, DS.s_idx3, DS.s_idx4, DS.s_slc1, DS.s_slc2, DS.s_slc3, DS.s_slc4, DS.s_rev, DS.s_len1, DS.s_len2, DS.s_len3, DS.s_len4, DS.s_len5, DS.s_list1, DS.s_list2, DS.s_list3, DS.s_tuple1, DS.s_tuple2, DS.s_dict1, DS.s_dict2, DS.s_max2, DS.s_min2, DS.s_abs, DS.s_isi, DS.s_sum, DS.s_join, DS.s_upper, DS.s_items, DS.s_vals, DS.s_all, DS.s_str1, DS.s_str2, DS.s_str3, DS.s_int1, DS.s_int2, DS.s_get1, DS.s_get2, DS.s_dct0, DS.s_fz1, DS.s_fz2, DS.s_fz3, DS.s_bf1, DS.s_bf2, DS.s_bf3, DS.s_tr0, DS.s_tr1, DS.s_tr2, DS.s_tr3, DS.s_tr4, DS.s_tr5, DS.s_tr6, DS.s_av0, DS.s_av1, DS.s_av2, DS.s_ag0, DS.s_ag1, DS.s_ag2, DS.s_ty1, DS.s_ty2, DS.s_ty3, DS.s_ix0, DS.s_at0, DS.ex_cons, DS.s_dep1, DS.s_dep2, DS.s_dep3, DS.s_key1, DS.s_key2, DS.s_key3, DS.s_ot0, DS.ex_one, DS.s_ot1, DS.s_sq1, DS.s_sq2, DS.s_sq3, DS.s_sq4, DS.s_rg1, DS.s_rg2, DS.s_en, DS.s_it, DS.s_vl, List.map_cons, List.map_nil, List.cons_append, List.nil_append, List.length_cons, List.length_nil, List.replicate, Nat.add_one_sub_one, Nat.reduceAdd, Nat.reduceSub, List.append_nil, List.getElem?_cons_zero, List.getElem?_cons_succ, List.set_cons_zero, List.set_cons_succ, Option.map_some, Option.some.injEq, exists_eq_left', exists_eq', exists_eq_left, DS.O.pu.injEq, DS.O.fl.injEq, DS.O.fd.injEq, DS.wipeE, DS.backE, Option.getD_some, Option.getD_none, DS.D.bl.injEq, true_and, and_true, if_true, if_false, reduceCtorEq, Bool.false_eq_true, List.nodup_nil, List.nodup_cons, List.not_mem_nil, not_false_eq_true, exists_const, DS.s_at20, DS.s_at21, DS.s_at30, DS.s_at31, DS.s_at32, DS.s_revt, DS.p_non, DS.i_int_non, DS.i_bool_non, DS.i_str_non, DS.i_tuple_non, DS.i_list_non, DS.i_dict_non, DS.i_lt_non, DS.p_bl, DS.i_int_bl, DS.i_bool_bl, DS.i_str_bl, DS.i_tuple_bl, DS.i_list_bl, DS.i_dict_bl, DS.i_lt_bl, DS.p_int, DS.i_int_int, DS.i_bool_int, DS.i_str_int, DS.i_tuple_int, DS.i_list_int, DS.i_dict_int, DS.i_lt_int, DS.p_str, DS.i_int_str, DS.i_bool_str, DS.i_str_str, DS.i_tuple_str, DS.i_list_str, DS.i_dict_str, DS.i_lt_str, DS.p_lst, DS.i_int_lst, DS.i_bool_lst, DS.i_str_lst, DS.i_tuple_lst, DS.i_list_lst, DS.i_dict_lst, DS.i_lt_lst, DS.p_tup, DS.i_int_tup, DS.i_bool_tup, DS.i_str_tup, DS.i_tuple_tup, DS.i_list_tup, DS.i_dict_tup, DS.i_lt_tup, DS.p_dct, DS.i_int_dct, DS.i_bool_dct, DS.i_str_dct, DS.i_tuple_dct, DS.i_list_dct, DS.i_dict_dct, DS.i_lt_dct, DS.ite_tt, DS.ite_ff, Bool.not_true, Bool.not_false, true_and]
    simp only [isNum] at hk
    by_cases h : lo ≤ i
    · simpa [h] using hk
    · simpa [h] using hk
  | _ => simp only [DS.wSs, DS.wS, DS.wE, DS.wEs, DS.wAs, DS.wOI, DS.wCs, DS.asK, DS.tkD, DS.avIos, DS.putOs, DS.setAll, DS.opW, DS.bindT, DS.bindTs, DS.startE, DS.mTy, DS.ex_some, DS.ex_publ, DS.ex_int, DS.ex_int2, DS.ex_tup, DS.s_add1, DS.s_add2, DS.s_add3, DS.s_add4, DS.s_sub, DS.s_mul1, DS.s_mul2, DS.s_fdiv, DS.s_mod, DS.s_pow, DS.s_neg, DS.s_cmp1, DS.s_cmp2, DS.s_eq, DS.s_isN, DS.s_in1, DS.s_in2, DS.s_in3, DS.s_in4, DS.s_idx1, DS.s_idx2, DS.s_idx3, DS.s_idx4, DS.s_slc1, DS.s_slc2, DS.s_slc3, DS.s_slc4, DS.s_rev, DS.s_len1, DS.s_len2, DS.s_len3, DS.s_len4, DS.s_len5, DS.s_list1, DS.s_list2, DS.s_list3, DS.s_tuple1, DS.s_tuple2, DS.s_dict1, DS.s_dict2, DS.s_max2, DS.s_min2, DS.s_abs, DS.s_isi, DS.s_sum, DS.s_join, DS.s_upper, DS.s_items, DS.s_vals, DS.s_all, DS.s_str1, DS.s_str2, DS.s_str3, DS.s_int1, DS.s_int2, DS.s_get1, DS.s_get2, DS.s_dct0, DS.s_fz1, DS.s_fz2, DS.s_fz3, DS.s_bf1, DS.s_bf2, DS.s_bf3, DS.s_tr0, DS.s_tr1, DS.s_tr2, DS.s_tr3, DS.s_tr4, DS.s_tr5, DS.s_tr6, DS.s_av0, DS.s_av1, DS.s_av2, DS.s_ag0, DS.s_ag1, DS.s_ag2, DS.s_ty1, DS.s_ty2, DS.s_ty3, DS.s_ix0, DS.s_at0, DS.ex_cons, DS.s_dep1, DS.s_dep2, DS.s_dep3, DS.s_key1, DS.s_key2, DS.s_key3, DS.s_ot0, DS.ex_one, DS.s_ot1, DS.s_sq1, DS.s_sq2, DS.s_sq3, DS.s_sq4, DS.s_rg1, DS.s_rg2, DS.s_en, DS.s_it, DS.s_vl, List.map_cons, List.map_nil, List.cons_append, List.nil_append, List.length_cons, List.length_nil, List.replicate, Nat.add_one_sub_one, Nat.reduceAdd, Nat.reduceSub, List.append_nil, List.getElem?_cons_zero, List.getElem?_cons_succ, List.set_cons_zero, List.set_cons_succ, Option.map_some, Option.some.injEq, exists_eq_left', exists_eq', exists_eq_left, DS.O.pu.injEq, DS.O.fl.injEq, DS.O.fd.injEq, DS.wipeE, DS.backE, Option.getD_some, Option.getD_none, DS.D.bl.injEq, true_and, and_true, if_true, if_false, reduceCtorEq, Bool.false_eq_true, List.nodup_nil, List.nodup_cons, List.not_mem_nil, not_false_eq_true, exists_const, DS.s_at20, DS.s_at21, DS.s_at30, DS.s_at31, DS.s_at32, DS.s_revt, DS.p_non, DS.i_int_non, DS.i_bool_non, DS.i_str_non, DS.i_tuple_non, DS.i_list_non, DS.i_dict_non, DS.i_lt_non, DS.p_bl, DS.i_int_bl, DS.i_bool_bl, DS.i_str_bl, DS.i_tuple_bl, DS.i_list_bl, DS.i_dict_bl, DS.i_lt_bl, DS.p_int, DS.i_int_int, DS.i_bool_int, DS.i_str_int, DS.i_tuple_int, DS.i_list_int, DS.i_dict_int, DS.i_lt_int, DS.p_str, DS.i_int_str, DS.i_bool_str, DS.i_str_str, DS.i_tuple_str, DS.i_list_str, DS.i_dict_str, DS.i_lt_str, DS.p_lst, DS.i_int_lst, DS.i_bool_lst, DS.i_str_lst, DS.i_tuple_lst, DS.i_list_lst, DS.i_dict_lst, DS.i_lt_lst, DS.p_tup, DS.i_int_tup, DS.i_bool_tup, DS.i_str_tup, DS.i_tuple_tup, DS.i_list_tup, DS.i_dict_tup, DS.i_lt_tup, DS.p_dct, DS.i_int_dct, DS.i_bool_dct, DS.i_str_dct, DS.i_tuple_dct, DS.i_list_dct, DS.i_dict_dct, DS.i_lt_dct, DS.ite_tt, DS.ite_ff, Bool.not_true, Bool.not_false, true_and]; exact hk
def fName : Fn := ⟨2, 1, [], [.ifs (.orE (.notE (.op (.isi ["str"]) [.io 0])) (.notE (.chain .lt .le (.con (.int 0)) (.op .len [.io 0]) (.con (.int 6))))) [.ret (.con (.bl false))] [],
    .ret (.op .allOf [.comp .seq [.var 0] (.n 1) [] (.chain .le .le (.con (.str "a")) (.var 1) (.con (.str "z"))) [1]])]⟩
def fsName : FS := fun args K R => ∃ (d : D), args = [.pu d] ∧ Askd d ∧ K (.pu (.bl (isName d))) []
theorem chars_loop {g : D → Ev → (Option D → Ev → Prop) → Prop} {E0 : Ev → Prop} {K : List D → Ev → Prop} (p : Nat → Bool) (hstep : ∀ c e L, E0 e → (∀ e1, E0 e1 → L (some (.bl (p c))) e1) → g (.str ⟨#[c]⟩) e L) :
    ∀ (l : List Nat) (acc : List Bool) e, E0 e → acc.length + l.length ≤ sizeLine → (∀ e1, E0 e1 → K ((acc ++ l.map p).map .bl) e1) → compW g (l.map fun c => .str ⟨#[c]⟩) (acc.map .bl) e K
  | [], acc, e, he, hl, hk => by
    have := hk e he
    simpa [compW] using this
  | c :: l, acc, e, he, hl, hk => by
    simp only [List.map_cons]
    unfold compW
    simp only [List.length_cons] at hl
    refine hstep c e _ he fun e1 he1 => ⟨by simp; omega, ?_⟩
    have := chars_loop p hstep l (acc ++ [p c]) e1 he1 (by simp; omega) (fun e2 he2 => by
      have := hk e2 he2
      simpa using this)
    simpa using this
theorem bools_map : ∀ bs : List Bool, boolsOf (bs.map .bl) = some bs
  | [] => rfl
  | b :: bs => by simp only [List.map_cons, boolsOf, bools_map bs, Option.map_some]
theorem ok_name {Γ : Gam} : Fn.Ok Γ fName fsName := by
  rintro args K R ⟨d, rfl, hd, hk⟩
  refine ⟨rfl, ?_⟩
  unfold fName
  cases d with
  | ins c fs => cases hd
  | val u => cases hd
  | scr xs => cases hd
  | str z =>
    have hz : z.length ≤ sizeLine := hd
    simp only [DS.wSs, DS.wS, DS.wE, DS.wEs, DS.wAs, DS.wOI, DS.wCs, DS.asK, DS.tkD, DS.avIos, DS.putOs, DS.setAll, DS.opW, DS.bindT, DS.bindTs, DS.startE, DS.mTy, DS.ex_some, DS.ex_publ, DS.ex_int, DS.ex_int2, DS.ex_tup, DS.s_add1, DS.s_add2, DS.s_add3, DS.s_add4, DS.s_sub, DS.s_mul1, DS.s_mul2, DS.s_fdiv, DS.s_mod, DS.s_pow, DS.s_neg, DS.s_cmp1, DS.s_cmp2, DS.s_eq, DS.s_isN, DS.s_in1, DS.s_in2, DS.s_in3, DS.s_in4, DS.s_idx1, DS.s_idx2, DS.s_idx3, DS.s_idx4, DS.s_slc1, DS.s_slc2, DS.s_slc3, DS.s_slc4, DS.s_rev, DS.s_len1, DS.s_len2, DS.s_len3, DS.s_len4, DS.s_len5, DS.s_list1, DS.s_list2, DS.s_list3, DS.s_tuple1, DS.s_tuple2, DS.s_dict1, DS.s_dict2, DS.s_max2, DS.s_min2, DS.s_abs, DS.s_isi, DS.s_sum, DS.s_join, DS.s_upper, DS.s_items, DS.s_vals, DS.s_all, DS.s_str1, DS.s_str2, DS.s_str3, DS.s_int1, DS.s_int2, DS.s_get1, DS.s_get2, DS.s_dct0, DS.s_fz1, DS.s_fz2, DS.s_fz3, DS.s_bf1, DS.s_bf2, DS.s_bf3, DS.s_tr0, DS.s_tr1, DS.s_tr2, DS.s_tr3, DS.s_tr4, DS.s_tr5, DS.s_tr6, DS.s_av0, DS.s_av1, DS.s_av2, DS.s_ag0, DS.s_ag1, DS.s_ag2, DS.s_ty1, DS.s_ty2, DS.s_ty3, DS.s_ix0, DS.s_at0, DS.ex_cons, DS.s_dep1, DS.s_dep2, DS.s_dep3, DS.s_key1, DS.s_key2, DS.s_key3, DS.s_ot0, DS.ex_one, DS.s_ot1, DS.s_sq1, DS.s_sq2, DS.s_sq3, DS.s_sq4, DS.s_rg1, DS.s_rg2, DS.s_en, DS.s_it, DS.s_vl, List.map_cons, List.map_nil, List.cons_append, List.nil_append, List.length_cons, List.length_nil, List.replicate, Nat.add_one_sub_one, Nat.reduceAdd, Nat.reduceSub, List.append_nil, List.getElem?_cons_zero, List.getElem?_cons_succ, List.set_cons_zero, List.set_cons_succ, Option.map_some, Option.some.injEq, exists_eq_left', exists_eq', exists_eq_left, DS.O.pu.injEq, DS.O.fl.injEq, DS.O.fd.injEq, DS.wipeE, DS.backE, Option.getD_some, Option.getD_none, DS.D.bl.injEq, true_and, and_true, if_true, if_false, reduceCtorEq, Bool.false_eq_true, List.nodup_nil, List.nodup_cons, List.not_mem_nil, not_false_eq_true, exists_const, DS.s_at20, DS.s_at21, DS.s_at30, DS.s_at31, DS.s_at32, DS.s_revt, DS.p_non, DS.i_int_non, DS.i_bool_non, DS.i_str_non, DS.i_tuple_non, DS.i_list_non, DS.i_dict_non, DS.i_lt_non, DS.p_bl, DS.i_int_bl, DS.i_bool_bl, DS.i_str_bl, DS.i_tuple_bl, DS.i_list_bl, DS.i_dict_bl, DS.i_lt_bl, DS.p_int, DS.i_int_int, DS.i_bool_int, DS.i_str_int, DS.i_tuple_int, DS.i_list_int, DS.i_dict_int, DS.i_lt_int, DS.p_str, DS.i_int_str, DS.i_bool_str, DS.i_str_str, DS.i_tuple_str, DS.i_list_str, DS.i_dict_str, DS.i_lt_str, DS.p_lst, DS.i_int_lst, DS.i_bool_lst, DS.i_str_lst, DS.i_tuple_lst, DS.i_list_lst, DS.i_dict_lst, DS.i_lt_lst, DS.p_tup, DS.i_int_tup, DS.i_bool_tup, DS.i_str_tup, DS.i_tuple_tup, DS.i_list_tup, DS.i_dict_tup, DS.i_lt_tup, DS.p_dct, DS.i_int_dct, DS.i_bool_dct, DS.i_str_dct, DS.i_tuple_dct, DS.i_list_dct, DS.i_dict_dct, DS.i_lt_dct, DS.ite_tt, DS.ite_ff, Bool.not_true, Bool.not_false, true_and]
    refine ⟨hz, ?_⟩
    by_cases h0 : 0 < (z.length : Int)
    · rw [if_pos (by simpa using h0)]
      by_cases h6 : (z.length : Int) ≤ 6
      · rw [if_neg (by simpa using h6)]
        refine chars_loop (fun c => decide (97 ≤ c) && decide (c ≤ 122)) (E0 := fun e => ∃ x1, e = [some (.pu (.str z)), x1]) ?_ z.cps.toList [] _ ⟨_, rfl⟩ (by show 0 + (cds z).length ≤ _; rw [cds_len]; omega) ?_
        · rintro c e L ⟨x1, rfl⟩ hL
          simp only [DS.wSs, DS.wS, DS.wE, DS.wEs, DS.wAs, DS.wOI, DS.wCs, DS.asK, DS.tkD, DS.avIos, DS.putOs, DS.setAll, DS.opW, DS.bindT, DS.bindTs, DS.startE, DS.mTy, DS.ex_some, DS.ex_publ, DS.ex_int, DS.ex_int2, DS.ex_tup, DS.s_add1, DS.s_add2, DS.s_add3, DS.s_add4, DS.s_sub, DS.s_mul1, DS.s_mul2, DS.s_fdiv, DS.s_mod, DS.s_pow, DS.s_neg, DS.s_cmp1, DS.s_cmp2, DS.s_eq, DS.s_isN, DS.s_in1, DS.s_in2, DS.s_in3, DS.s_in4, DS.s_idx1, DS.s_idx2, DS.s_idx3, DS.s_idx4, DS.s_slc1, DS.s_slc2, DS.s_slc3, DS.s_slc4, DS.s_rev, DS.s_len1, DS.s_len2, DS.s_len3, DS.s_len4, DS.s_len5, DS.s_list1, DS.s_list2, DS.s_list3, DS.s_tuple1, DS.s_tuple2, DS.s_dict1, DS.s_dict2, DS.s_max2, DS.s_min2, DS.s_abs, DS.s_isi, DS.s_sum, DS.s_join, DS.s_upper, DS.s_items, DS.s_vals, DS.s_all, DS.s_str1, DS.s_str2, DS.s_str3, DS.s_int1, DS.s_int2, DS.s_get1, DS.s_get2, DS.s_dct0, DS.s_fz1, DS.s_fz2, DS.s_fz3, DS.s_bf1, DS.s_bf2, DS.s_bf3, DS.s_tr0, DS.s_tr1, DS.s_tr2, DS.s_tr3, DS.s_tr4, DS.s_tr5, DS.s_tr6, DS.s_av0, DS.s_av1, DS.s_av2, DS.s_ag0, DS.s_ag1, DS.s_ag2, DS.s_ty1, DS.s_ty2, DS.s_ty3, DS.s_ix0, DS.s_at0, DS.ex_cons, DS.s_dep1, DS.s_dep2, DS.s_dep3, DS.s_key1, DS.s_key2, DS.s_key3, DS.s_ot0, DS.ex_one, DS.s_ot1, DS.s_sq1, DS.s_sq2, DS.s_sq3, DS.s_sq4, DS.s_rg1, DS.s_rg2, DS.s_en, DS.s_it, DS.s_vl, List.map_cons, List.map_nil, List.cons_append, List.nil_append, List.length_cons, List.length_nil, List.replicate, Nat.add_one_sub_one, Nat.reduceAdd, Nat.reduceSub, List.append_nil, List.getElem?_cons_zero, List.getElem?_cons_succ, List.set_cons_zero, List.set_cons_succ, Option.map_some, Option.some.injEq, exists_eq_left', exists_eq', exists_eq_left, DS.O.pu.injEq, DS.O.fl.injEq, DS.O.fd.injEq, DS.wipeE, DS.backE, Option.getD_some, Option.getD_none, DS.D.bl.injEq, true_and, and_true, if_true, if_false, reduceCtorEq, Bool.false_eq_true, List.nodup_nil, List.nodup_cons, List.not_mem_nil, not_false_eq_true, exists_const, DS.s_at20, DS.s_at21, DS.s_at30, DS.s_at31, DS.s_at32, DS.s_revt, DS.p_non, DS.i_int_non, DS.i_bool_non, DS.i_str_non, DS.i_tuple_non, DS.i_list_non, DS.i_dict_non, DS.i_lt_non, DS.p_bl, DS.i_int_bl, DS.i_bool_bl, DS.i_str_bl, DS.i_tuple_bl, DS.i_list_bl, DS.i_dict_bl, DS.i_lt_bl, DS.p_int, DS.i_int_int, DS.i_bool_int, DS.i_str_int, DS.i_tuple_int, DS.i_list_int, DS.i_dict_int, DS.i_lt_int, DS.p_str, DS.i_int_str, DS.i_bool_str, DS.i_str_str, DS.i_tuple_str, DS.i_list_str, DS.i_dict_str, DS.i_lt_str, DS.p_lst, DS.i_int_lst, DS.i_bool_lst, DS.i_str_lst, DS.i_tuple_lst, DS.i_list_lst, DS.i_dict_lst, DS.i_lt_lst, DS.p_tup, DS.i_int_tup, DS.i_bool_tup, DS.i_str_tup, DS.i_tuple_tup, DS.i_list_tup, DS.i_dict_tup, DS.i_lt_tup, DS.p_dct, DS.i_int_dct, DS.i_bool_dct, DS.i_str_dct, DS.i_tuple_dct, DS.i_list_dct, DS.i_dict_dct, DS.i_lt_dct, DS.ite_tt, DS.ite_ff, Bool.not_true, Bool.not_false, true_and]
          rw [show (decide ((#[c] : Array Nat).toList < (Str.ofString "a").cps.toList)) = decide (c < 97) from lt_a, show (decide ((Str.ofString "z").cps.toList < (#[c] : Array Nat).toList)) = decide (122 < c) from z_lt]
          by_cases h : c < 97
          · rw [if_neg (by simpa using h)]
            have : (decide (97 ≤ c) && decide (c ≤ 122)) = false := by simp; omega
            have := hL [some (.pu (.str z)), none] ⟨_, rfl⟩
            simp_all
          · rw [if_pos (by simpa using h)]
            have e1 : (decide (97 ≤ c) && decide (c ≤ 122)) = !decide (122 < c) := by
              rw [Bool.eq_iff_iff]; simp; omega
            rw [← e1]
            exact hL _ ⟨_, rfl⟩
        · rintro e ⟨x1, rfl⟩
          simp only [DS.wSs, DS.wS, DS.wE, DS.wEs, DS.wAs, DS.wOI, DS.wCs, DS.asK, DS.tkD, DS.avIos, DS.putOs, DS.setAll, DS.opW, DS.bindT, DS.bindTs, DS.startE, DS.mTy, DS.ex_some, DS.ex_publ, DS.ex_int, DS.ex_int2, DS.ex_tup, DS.s_add1, DS.s_add2, DS.s_add3, DS.s_add4, DS.s_sub, DS.s_mul1, DS.s_mul2, DS.s_fdiv, DS.s_mod, DS.s_pow, DS.s_neg, DS.s_cmp1, DS.s_cmp2, DS.s_eq, DS.s_isN, DS.s_in1, DS.s_in2, DS.s_in3, DS.s_in4, DS.s_idx1, DS.s_idx2, DS.s_idx3, DS.s_idx4, DS.s_slc1, DS.s_slc2, DS.s_slc3, DS.s_slc4, DS.s_rev, DS.s_len1, DS.s_len2, DS.s_len3, DS.s_len4, DS.s_len5, DS.s_list1, DS.s_list2, DS.s_list3, DS.s_tuple1, DS.s_tuple2, DS.s_dict1, DS.s_dict2, DS.s_max2, DS.s_min2, DS.s_abs, DS.s_isi, DS.s_sum, DS.s_join, DS.s_upper, DS.s_items, DS.s_vals, DS.s_all, DS.s_str1, DS.s_str2, DS.s_str3, DS.s_int1, DS.s_int2, DS.s_get1, DS.s_get2, DS.s_dct0, DS.s_fz1, DS.s_fz2, DS.s_fz3, DS.s_bf1, DS.s_bf2, DS.s_bf3, DS.s_tr0, DS.s_tr1, DS.s_tr2, DS.s_tr3, DS.s_tr4, DS.s_tr5, DS.s_tr6, DS.s_av0, DS.s_av1, DS.s_av2, DS.s_ag0, DS.s_ag1, DS.s_ag2, DS.s_ty1, DS.s_ty2, DS.s_ty3, DS.s_ix0, DS.s_at0, DS.ex_cons, DS.s_dep1, DS.s_dep2, DS.s_dep3, DS.s_key1, DS.s_key2, DS.s_key3, DS.s_ot0, DS.ex_one, DS.s_ot1, DS.s_sq1, DS.s_sq2, DS.s_sq3, DS.s_sq4, DS.s_rg1, DS.s_rg2, DS.s_en, DS.s_it, DS.s_vl, List.map_cons, List.map_nil, List.cons_append, List.nil_append, List.length_cons, List.length_nil, List.replicate, Nat.add_one_sub_one, Nat.reduceAdd, Nat.reduceSub, List.append_nil, List.getElem?_cons_zero, List.getElem?_cons_succ, List.set_cons_zero, List.set_cons_succ, Option.map_some, Option.some.injEq, exists_eq_left', exists_eq', exists_eq_left, DS.O.pu.injEq, DS.O.fl.injEq, DS.O.fd.injEq, DS.wipeE, DS.backE, Option.getD_some, Option.getD_none, DS.D.bl.injEq, true_and, and_true, if_true, if_false, reduceCtorEq, Bool.false_eq_true, List.nodup_nil, List.nodup_cons, List.not_mem_nil, not_false_eq_true, exists_const, DS.s_at20, DS.s_at21, DS.s_at30, DS.s_at31, DS.s_at32, DS.s_revt, DS.p_non, DS.i_int_non, DS.i_bool_non, DS.i_str_non, DS.i_tuple_non, DS.i_list_non, DS.i_dict_non, DS.i_lt_non, DS.p_bl, DS.i_int_bl, DS.i_bool_bl, DS.i_str_bl, DS.i_tuple_bl, DS.i_list_bl, DS.i_dict_bl, DS.i_lt_bl, DS.p_int, DS.i_int_int, DS.i_bool_int, DS.i_str_int, DS.i_tuple_int, DS.i_list_int, DS.i_dict_int, DS.i_lt_int, DS.p_str, DS.i_int_str, DS.i_bool_str, DS.i_str_str, DS.i_tuple_str, DS.i_list_str, DS.i_dict_str, DS.i_lt_str, DS.p_lst, DS.i_int_lst, DS.i_bool_lst, DS.i_str_lst, DS.i_tuple_lst, DS.i_list_lst, DS.i_dict_lst, DS.i_lt_lst, DS.p_tup, DS.i_int_tup, DS.i_bool_tup, DS.i_str_tup, DS.i_tuple_tup, DS.i_list_tup, DS.i_dict_tup, DS.i_lt_tup, DS.p_dct, DS.i_int_dct, DS.i_bool_dct, DS.i_str_dct, DS.i_tuple_dct, DS.i_list_dct, DS.i_dict_dct, DS.i_lt_dct, DS.ite_tt, DS.ite_ff, Bool.not_true, Bool.not_false, true_and, List.nil_append]
          refine ⟨_, bools_map _, ?_⟩
          have : isName (.str z) = ((z.cps.toList.map fun c => decide (97 ≤ c) && decide (c ≤ 122)).all id) := by
            show isNmB z = _
            unfold isNmB
            rw [show decide (1 ≤ z.length) = true by simpa using (by omega : 1 ≤ z.length), show decide (z.length ≤ 6) = true by simpa using (by omega : z.length ≤ 6)]
            simp [cds, Function.comp_def]
          rw [← this]
          exact hk
      · rw [if_pos (by simpa using h6)]
        have : isName (.str z) = false := by
          show isNmB z = _
          unfold isNmB
          rw [show decide (z.length ≤ 6) = false by simpa using (by omega : 6 < z.length)]
          simp
        rw [this] at hk
        exact hk
    · rw [if_neg (by simpa using h0)]
      have : isName (.str z) = false := by
        show isNmB z = _
        unfold isNmB
        rw [show decide (1 ≤ z.length) = false by simpa using (by omega : z.length = 0)]
        simp
      rw [this] at hk
      exact hk
  | _ => simp only [DS.wSs, DS.wS, DS.wE, DS.wEs, DS.wAs, DS.wOI, DS.wCs, DS.asK, DS.tkD, DS.avIos, DS.putOs, DS.setAll, DS.opW, DS.bindT, DS.bindTs, DS.startE, DS.mTy, DS.ex_some, DS.ex_publ, DS.ex_int, DS.ex_int2, DS.ex_tup, DS.s_add1, DS.s_add2, DS.s_add3, DS.s_add4, DS.s_sub, DS.s_mul1, DS.s_mul2, DS.s_fdiv, DS.s_mod, DS.s_pow, DS.s_neg, DS.s_cmp1, DS.s_cmp2, DS.s_eq, DS.s_isN, DS.s_in1, DS.s_in2, DS.s_in3, DS.s_in4, DS.s_idx1, DS.s_idx2, DS.s_idx3, DS.s_idx4, DS.s_slc1, DS.s_slc2, DS.s_slc3, DS.s_slc4, DS.s_rev, DS.s_len1, DS.s_len2, DS.s_len3, DS.s_len4, DS.s_len5, DS.s_list1, DS.s_list2, DS.s_list3, DS.s_tuple1, DS.s_tuple2, DS.s_dict1, DS.s_dict2, DS.s_max2, DS.s_min2, DS.s_abs, DS.s_isi, DS.s_sum, DS.s_join, DS.s_upper, DS.s_items, DS.s_vals, DS.s_all, DS.s_str1, DS.s_str2, DS.s_str3, DS.s_int1, DS.s_int2, DS.s_get1, DS.s_get2, DS.s_dct0, DS.s_fz1, DS.s_fz2, DS.s_fz3, DS.s_bf1, DS.s_bf2, DS.s_bf3, DS.s_tr0, DS.s_tr1, DS.s_tr2, DS.s_tr3, DS.s_tr4, DS.s_tr5, DS.s_tr6, DS.s_av0, DS.s_av1, DS.s_av2, DS.s_ag0, DS.s_ag1, DS.s_ag2, DS.s_ty1, DS.s_ty2, DS.s_ty3, DS.s_ix0, DS.s_at0, DS.ex_cons, DS.s_dep1, DS.s_dep2, DS.s_dep3, DS.s_key1, DS.s_key2, DS.s_key3, DS.s_ot0, DS.ex_one, DS.s_ot1, DS.s_sq1, DS.s_sq2, DS.s_sq3, DS.s_sq4, DS.s_rg1, DS.s_rg2, DS.s_en, DS.s_it, DS.s_vl, List.map_cons, List.map_nil, List.cons_append, List.nil_append, List.length_cons, List.length_nil, List.replicate, Nat.add_one_sub_one, Nat.reduceAdd, Nat.reduceSub, List.append_nil, List.getElem?_cons_zero, List.getElem?_cons_succ, List.set_cons_zero, List.set_cons_succ, Option.map_some, Option.some.injEq, exists_eq_left', exists_eq', exists_eq_left, DS.O.pu.injEq, DS.O.fl.injEq, DS.O.fd.injEq, DS.wipeE, DS.backE, Option.getD_some, Option.getD_none, DS.D.bl.injEq, true_and, and_true, if_true, if_false, reduceCtorEq, Bool.false_eq_true, List.nodup_nil, List.nodup_cons, List.not_mem_nil, not_false_eq_true, exists_const, DS.s_at20, DS.s_at21, DS.s_at30, DS.s_at31, DS.s_at32, DS.s_revt, DS.p_non, DS.i_int_non, DS.i_bool_non, DS.i_str_non, DS.i_tuple_non, DS.i_list_non, DS.i_dict_non, DS.i_lt_non, DS.p_bl, DS.i_int_bl, DS.i_bool_bl, DS.i_str_bl, DS.i_tuple_bl, DS.i_list_bl, DS.i_dict_bl, DS.i_lt_bl, DS.p_int, DS.i_int_int, DS.i_bool_int, DS.i_str_int, DS.i_tuple_int, DS.i_list_int, DS.i_dict_int, DS.i_lt_int, DS.p_str, DS.i_int_str, DS.i_bool_str, DS.i_str_str, DS.i_tuple_str, DS.i_list_str, DS.i_dict_str, DS.i_lt_str, DS.p_lst, DS.i_int_lst, DS.i_bool_lst, DS.i_str_lst, DS.i_tuple_lst, DS.i_list_lst, DS.i_dict_lst, DS.i_lt_lst, DS.p_tup, DS.i_int_tup, DS.i_bool_tup, DS.i_str_tup, DS.i_tuple_tup, DS.i_list_tup, DS.i_dict_tup, DS.i_lt_tup, DS.p_dct, DS.i_int_dct, DS.i_bool_dct, DS.i_str_dct, DS.i_tuple_dct, DS.i_list_dct, DS.i_dict_dct, DS.i_lt_dct, DS.ite_tt, DS.ite_ff, Bool.not_true, Bool.not_false, true_and]; exact hk
end DS
/-! DS24: terms and constraints. -/
namespace DS
open PySem PySem.Spec PyProof.Rows L2
def fTerm (j : Nat) : Fn := ⟨1, 1, [], [.ret (.orE (.op .isN [.io 0]) (.call j [.var 0]))]⟩
def fsTerm : FS := fun args K R => ∃ (d : D), args = [.pu d] ∧ Askd d ∧ K (.pu (.bl (isTerm d))) []
theorem ok_term {Γ : Gam} {j : Nat} (hj : Γ j = fsName) : Fn.Ok Γ (fTerm j) fsTerm := by
  rintro args K R ⟨d, rfl, hd, hk⟩
  refine ⟨rfl, ?_⟩
  unfold fTerm
  simp only [DS.wSs, DS.wS, DS.wE, DS.wEs, DS.wAs, DS.wOI, DS.wCs, DS.asK, DS.tkD, DS.avIos, DS.putOs, DS.setAll, DS.opW, DS.bindT, DS.bindTs, DS.startE, DS.mTy, DS.ex_some, DS.ex_publ, DS.ex_int, DS.ex_int2, DS.ex_tup, DS.s_add1, DS.s_add2, DS.s_add3, DS.s_add4, DS.s_sub, DS.s_mul1, DS.s_mul2, DS.s_fdiv, DS.s_mod, DS.s_pow, DS.s_neg, DS.s_cmp1, DS.s_cmp2, DS.s_eq, DS.s_isN, DS.s_in1, DS.s_in2, DS.s_in3, DS.s_in4, DS.s_idx1, DS.s_idx2, DS.s_idx3, DS.s_idx4, DS.s_slc1, DS.s_slc2, DS.s_slc3, DS.s_slc4, DS.s_rev, DS.s_len1, DS.s_len2, DS.s_len3, DS.s_len4, DS.s_len5, DS.s_list1, DS.s_list2, DS.s_list3, DS.s_tuple1, DS.s_tuple2, DS.s_dict1, DS.s_dict2, DS.s_max2, DS.s_min2, DS.s_abs, DS.s_isi, DS.s_sum, DS.s_join, DS.s_upper, DS.s_items, DS.s_vals, DS.s_all, DS.s_str1, DS.s_str2, DS.s_str3, DS.s_int1, DS.s_int2, DS.s_get1, DS.s_get2, DS.s_dct0, DS.s_fz1, DS.s_fz2, DS.s_fz3, DS.s_bf1, DS.s_bf2, DS.s_bf3, DS.s_tr0, DS.s_tr1, DS.s_tr2, DS.s_tr3, DS.s_tr4, DS.s_tr5, DS.s_tr6, DS.s_av0, DS.s_av1, DS.s_av2, DS.s_ag0, DS.s_ag1, DS.s_ag2, DS.s_ty1, DS.s_ty2, DS.s_ty3, DS.s_ix0, DS.s_at0, DS.ex_cons, DS.s_dep1, DS.s_dep2, DS.s_dep3, DS.s_key1, DS.s_key2, DS.s_key3, DS.s_ot0, DS.ex_one, DS.s_ot1, DS.s_sq1, DS.s_sq2, DS.s_sq3, DS.s_sq4, DS.s_rg1, DS.s_rg2, DS.s_en, DS.s_it, DS.s_vl, List.map_cons, List.map_nil, List.cons_append, List.nil_append, List.length_cons, List.length_nil, List.replicate, Nat.add_one_sub_one, Nat.reduceAdd, Nat.reduceSub, List.append_nil, List.getElem?_cons_zero, List.getElem?_cons_succ, List.set_cons_zero, List.set_cons_succ, Option.map_some, Option.some.injEq, exists_eq_left', exists_eq', exists_eq_left, DS.O.pu.injEq, DS.O.fl.injEq, DS.O.fd.injEq, DS.wipeE, DS.backE, Option.getD_some, Option.getD_none, DS.D.bl.injEq, true_and, and_true, if_true, if_false, reduceCtorEq, Bool.false_eq_true, List.nodup_nil, List.nodup_cons, List.not_mem_nil, not_false_eq_true, exists_const, DS.s_at20, DS.s_at21, DS.s_at30, DS.s_at31, DS.s_at32, DS.s_revt, DS.p_non, DS.i_int_non, DS.i_bool_non, DS.i_str_non, DS.i_tuple_non, DS.i_list_non, DS.i_dict_non, DS.i_lt_non, DS.p_bl, DS.i_int_bl, DS.i_bool_bl, DS.i_str_bl, DS.i_tuple_bl, DS.i_list_bl, DS.i_dict_bl, DS.i_lt_bl, DS.p_int, DS.i_int_int, DS.i_bool_int, DS.i_str_int, DS.i_tuple_int, DS.i_list_int, DS.i_dict_int, DS.i_lt_int, DS.p_str, DS.i_int_str, DS.i_bool_str, DS.i_str_str, DS.i_tuple_str, DS.i_list_str, DS.i_dict_str, DS.i_lt_str, DS.p_lst, DS.i_int_lst, DS.i_bool_lst, DS.i_str_lst, DS.i_tuple_lst, DS.i_list_lst, DS.i_dict_lst, DS.i_lt_lst, DS.p_tup, DS.i_int_tup, DS.i_bool_tup, DS.i_str_tup, DS.i_tuple_tup, DS.i_list_tup, DS.i_dict_tup, DS.i_lt_tup, DS.p_dct, DS.i_int_dct, DS.i_bool_dct, DS.i_str_dct, DS.i_tuple_dct, DS.i_list_dct, DS.i_dict_dct, DS.i_lt_dct, DS.ite_tt, DS.ite_ff, Bool.not_true, Bool.not_false, true_and, hj]
  cases d with
  | ins c fs => cases hd
  | val u => cases hd
  | scr xs => cases hd
  | non =>
    have e : isNon .non = true := rfl
    simp only [e, DS.wSs, DS.wS, DS.wE, DS.wEs, DS.wAs, DS.wOI, DS.wCs, DS.asK, DS.tkD, DS.avIos, DS.putOs, DS.setAll, DS.opW, DS.bindT, DS.bindTs, DS.startE, DS.mTy, DS.ex_some, DS.ex_publ, DS.ex_int, DS.ex_int2, DS.ex_tup, DS.s_add1, DS.s_add2, DS.s_add3, DS.s_add4, DS.s_sub, DS.s_mul1, DS.s_mul2, DS.s_fdiv, DS.s_mod, DS.s_pow, DS.s_neg, DS.s_cmp1, DS.s_cmp2, DS.s_eq, DS.s_isN, DS.s_in1, DS.s_in2, DS.s_in3, DS.s_in4, DS.s_idx1, DS.s_idx2, DS.s_idx3, DS.s_idx4, DS.s_slc1, DS.s_slc2, DS.s_slc3, DS.s_slc4, DS.s_rev, DS.s_len1, DS.s_len2, DS.s_len3, DS.s_len4, DS.s_len5, DS.s_list1, DS.s_list2, DS.s_list3, DS.s_tuple1, DS.s_tuple2, DS.s_dict1, DS.s_dict2, DS.s_max2, DS.s_min2, DS.s_abs, DS.s_isi, DS.s_sum, DS.s_join, DS.s_upper, DS.s_items, DS.s_vals, DS.s_all, DS.s_str1, DS.s_str2, DS.s_str3, DS.s_int1, DS.s_int2, DS.s_get1, DS.s_get2, DS.s_dct0, DS.s_fz1, DS.s_fz2, DS.s_fz3, DS.s_bf1, DS.s_bf2, DS.s_bf3, DS.s_tr0, DS.s_tr1, DS.s_tr2, DS.s_tr3, DS.s_tr4, DS.s_tr5, DS.s_tr6, DS.s_av0, DS.s_av1, DS.s_av2, DS.s_ag0, DS.s_ag1, DS.s_ag2, DS.s_ty1, DS.s_ty2, DS.s_ty3, DS.s_ix0, DS.s_at0, DS.ex_cons, DS.s_dep1, DS.s_dep2, DS.s_dep3, DS.s_key1, DS.s_key2, DS.s_key3, DS.s_ot0, DS.ex_one, DS.s_ot1, DS.s_sq1, DS.s_sq2, DS.s_sq3, DS.s_sq4, DS.s_rg1, DS.s_rg2, DS.s_en, DS.s_it, DS.s_vl, List.map_cons, List.map_nil, List.cons_append, List.nil_append, List.length_cons, List.length_nil, List.replicate, Nat.add_one_sub_one, Nat.reduceAdd, Nat.reduceSub, List.append_nil, List.getElem?_cons_zero, List.getElem?_cons_succ, List.set_cons_zero, List.set_cons_succ, Option.map_some, Option.some.injEq, exists_eq_left', exists_eq', exists_eq_left, DS.O.pu.injEq, DS.O.fl.injEq, DS.O.fd.injEq, DS.wipeE, DS.backE, Option.getD_some, Option.getD_none, DS.D.bl.injEq, true_and, and_true, if_true, if_false, reduceCtorEq, Bool.false_eq_true, List.nodup_nil, List.nodup_cons, List.not_mem_nil, not_false_eq_true, exists_const, DS.s_at20, DS.s_at21, DS.s_at30, DS.s_at31, DS.s_at32, DS.s_revt, DS.p_non, DS.i_int_non, DS.i_bool_non, DS.i_str_non, DS.i_tuple_non, DS.i_list_non, DS.i_dict_non, DS.i_lt_non, DS.p_bl, DS.i_int_bl, DS.i_bool_bl, DS.i_str_bl, DS.i_tuple_bl, DS.i_list_bl, DS.i_dict_bl, DS.i_lt_bl, DS.p_int, DS.i_int_int, DS.i_bool_int, DS.i_str_int, DS.i_tuple_int, DS.i_list_int, DS.i_dict_int, DS.i_lt_int, DS.p_str, DS.i_int_str, DS.i_bool_str, DS.i_str_str, DS.i_tuple_str, DS.i_list_str, DS.i_dict_str, DS.i_lt_str, DS.p_lst, DS.i_int_lst, DS.i_bool_lst, DS.i_str_lst, DS.i_tuple_lst, DS.i_list_lst, DS.i_dict_lst, DS.i_lt_lst, DS.p_tup, DS.i_int_tup, DS.i_bool_tup, DS.i_str_tup, DS.i_tuple_tup, DS.i_list_tup, DS.i_dict_tup, DS.i_lt_tup, DS.p_dct, DS.i_int_dct, DS.i_bool_dct, DS.i_str_dct, DS.i_tuple_dct, DS.i_list_dct, DS.i_dict_dct, DS.i_lt_dct, DS.ite_tt, DS.ite_ff, Bool.not_true, Bool.not_false, true_and, tt]
    exact ⟨rfl, hk⟩
  | bl b => exact ⟨rfl, (.bl b), rfl, hd, rfl, hk⟩
  | int b => exact ⟨rfl, (.int b), rfl, hd, rfl, hk⟩
  | str b => exact ⟨rfl, (.str b), rfl, hd, rfl, hk⟩
  | lst b => exact ⟨rfl, (.lst b), rfl, hd, rfl, hk⟩
  | tup b => exact ⟨rfl, (.tup b), rfl, hd, rfl, hk⟩
  | dct b => exact ⟨rfl, (.dct b), rfl, hd, rfl, hk⟩
def fCons (jn jt : Nat) : Fn := ⟨4, 1, [], [.ifs (.orE (.notE (.op (.isi ["tuple"]) [.io 0])) (.op .ne [.op .len [.io 0], .con (.int 3)])) [.ret (.con (.bl false))] [],
    .tgt (.t [.n 1, .n 2, .n 3]) (.var 0),
    .ifs (.orE (.notE (.call jt [.var 1])) (.orE (.notE (.call jt [.var 2])) (.op .eq [.io 1, .io 2]))) [.ret (.con (.bl false))] [],
    .ret (.call jn [.var 3, .op .neg [.con (.int 1000000000)], .con (.int 1000000000)])]⟩
def isCons : D → Bool
  | .tup [l, r, b] => isTerm l && isTerm r && !deq l r && isNum (-1000000000) 1000000000 b
  | _ => false
def Ask3 : D → Prop
  | .tup xs => xs.length = 3 → ∀ x ∈ xs, Askd x
  | d => Askd d
theorem cmp_terms {l r : D} (hl : isTerm l = true) (hr : isTerm r = true) : cmpOk l r := by
  have h : ∀ d, isTerm d = true → d = .non ∨ ∃ z, d = .str z := by
    intro d hd
    cases d <;> first | exact .inl rfl | exact .inr ⟨_, rfl⟩ | cases hd
  rcases h l hl with rfl | ⟨z, rfl⟩ <;> rcases h r hr with rfl | ⟨y, rfl⟩ <;> exact ⟨rfl, by simp [depD]⟩
def fsCons : FS := fun args K R => ∃ (d : D), args = [.pu d] ∧ Ask3 d ∧ K (.pu (.bl (isCons d))) []
theorem ok_cons {Γ : Gam} {jn jt : Nat} (hn : Γ jn = fsNumber) (ht : Γ jt = fsTerm) : Fn.Ok Γ (fCons jn jt) fsCons := by
  rintro args K R ⟨d, rfl, hd, hk⟩
  refine ⟨rfl, ?_⟩
  unfold fCons
  cases d with
  | ins c fs => cases hd
  | val u => cases hd
  | scr xs => cases hd
  | tup xs =>
    match xs, hd, hk with
    | [], hd, hk => simp only [DS.wSs, DS.wS, DS.wE, DS.wEs, DS.wAs, DS.wOI, DS.wCs, DS.asK, DS.tkD, DS.avIos, DS.putOs, DS.setAll, DS.opW, DS.bindT, DS.bindTs, DS.startE, DS.mTy, DS.ex_some, DS.ex_publ, DS.ex_int, DS.ex_int2, DS.ex_tup, DS.s_add1, DS.s_add2, DS.s_add3, DS.s_add4, DS.s_sub, DS.s_mul1, DS.s_mul2, DS.s_fdiv, DS.s_mod, DS.s_pow, DS.s_neg, DS.s_cmp1, DS.s_cmp2, DS.s_eq, DS.s_isN, DS.s_in1, DS.s_in2, DS.s_in3, DS.s_in4, DS.s_idx1, DS.s_idx2, DS.s_idx3, DS.s_idx4, DS.s_slc1, DS.s_slc2, DS.s_slc3, DS.s_slc4, DS.s_rev, DS.s_len1, DS.s_len2, DS.s_len3, DS.s_len4, DS.s_len5, DS.s_list1, DS.s_list2, DS.s_list3, DS.s_tuple1, DS.s_tuple2, DS.s_dict1, DS.s_dict2, DS.s_max2, DS.s_min2, DS.s_abs, DS.s_isi, DS.s_sum, DS.s_join, DS.s_upper, DS.s_items, DS.s_vals, DS.s_all, DS.s_str1, DS.s_str2, DS.s_str3, DS.s_int1, DS.s_int2, DS.s_get1, DS.s_get2, DS.s_dct0, DS.s_fz1, DS.s_fz2, DS.s_fz3, DS.s_bf1, DS.s_bf2, DS.s_bf3, DS.s_tr0, DS.s_tr1, DS.s_tr2, DS.s_tr3, DS.s_tr4, DS.s_tr5, DS.s_tr6, DS.s_av0, DS.s_av1, DS.s_av2, DS.s_ag0, DS.s_ag1, DS.s_ag2, DS.s_ty1, DS.s_ty2, DS.s_ty3, DS.s_ix0, DS.s_at0, DS.ex_cons, DS.s_dep1, DS.s_dep2, DS.s_dep3, DS.s_key1, DS.s_key2, DS.s_key3, DS.s_ot0, DS.ex_one, DS.s_ot1, DS.s_sq1, DS.s_sq2, DS.s_sq3, DS.s_sq4, DS.s_rg1, DS.s_rg2, DS.s_en, DS.s_it, DS.s_vl, List.map_cons, List.map_nil, List.cons_append, List.nil_append, List.length_cons, List.length_nil, List.replicate, Nat.add_one_sub_one, Nat.reduceAdd, Nat.reduceSub, List.append_nil, List.getElem?_cons_zero, List.getElem?_cons_succ, List.set_cons_zero, List.set_cons_succ, Option.map_some, Option.some.injEq, exists_eq_left', exists_eq', exists_eq_left, DS.O.pu.injEq, DS.O.fl.injEq, DS.O.fd.injEq, DS.wipeE, DS.backE, Option.getD_some, Option.getD_none, DS.D.bl.injEq, true_and, and_true, if_true, if_false, reduceCtorEq, Bool.false_eq_true, List.nodup_nil, List.nodup_cons, List.not_mem_nil, not_false_eq_true, exists_const, DS.s_at20, DS.s_at21, DS.s_at30, DS.s_at31, DS.s_at32, DS.s_revt, DS.p_non, DS.i_int_non, DS.i_bool_non, DS.i_str_non, DS.i_tuple_non, DS.i_list_non, DS.i_dict_non, DS.i_lt_non, DS.p_bl, DS.i_int_bl, DS.i_bool_bl, DS.i_str_bl, DS.i_tuple_bl, DS.i_list_bl, DS.i_dict_bl, DS.i_lt_bl, DS.p_int, DS.i_int_int, DS.i_bool_int, DS.i_str_int, DS.i_tuple_int, DS.i_list_int, DS.i_dict_int, DS.i_lt_int, DS.p_str, DS.i_int_str, DS.i_bool_str, DS.i_str_str, DS.i_tuple_str, DS.i_list_str, DS.i_dict_str, DS.i_lt_str, DS.p_lst, DS.i_int_lst, DS.i_bool_lst, DS.i_str_lst, DS.i_tuple_lst, DS.i_list_lst, DS.i_dict_lst, DS.i_lt_lst, DS.p_tup, DS.i_int_tup, DS.i_bool_tup, DS.i_str_tup, DS.i_tuple_tup, DS.i_list_tup, DS.i_dict_tup, DS.i_lt_tup, DS.p_dct, DS.i_int_dct, DS.i_bool_dct, DS.i_str_dct, DS.i_tuple_dct, DS.i_list_dct, DS.i_dict_dct, DS.i_lt_dct, DS.ite_tt, DS.ite_ff, Bool.not_true, Bool.not_false, true_and]; exact ⟨cmp_int, hk⟩
    | [_], hd, hk => simp only [DS.wSs, DS.wS, DS.wE, DS.wEs, DS.wAs, DS.wOI, DS.wCs, DS.asK, DS.tkD, DS.avIos, DS.putOs, DS.setAll, DS.opW, DS.bindT, DS.bindTs, DS.startE, DS.mTy, DS.ex_some, DS.ex_publ, DS.ex_int, DS.ex_int2, DS.ex_tup, DS.s_add1, DS.s_add2, DS.s_add3, DS.s_add4, DS.s_sub, DS.s_mul1, DS.s_mul2, DS.s_fdiv, DS.s_mod, DS.s_pow, DS.s_neg, DS.s_cmp1, DS.s_cmp2, DS.s_eq, DS.s_isN, DS.s_in1, DS.s_in2, DS.s_in3, DS.s_in4, DS.s_idx1, DS.s_idx2, DS.s_idx3, DS.s_idx4, DS.s_slc1, DS.s_slc2, DS.s_slc3, DS.s_slc4, DS.s_rev, DS.s_len1, DS.s_len2, DS.s_len3, DS.s_len4, DS.s_len5, DS.s_list1, DS.s_list2, DS.s_list3, DS.s_tuple1, DS.s_tuple2, DS.s_dict1, DS.s_dict2, DS.s_max2, DS.s_min2, DS.s_abs, DS.s_isi, DS.s_sum, DS.s_join, DS.s_upper, DS.s_items, DS.s_vals, DS.s_all, DS.s_str1, DS.s_str2, DS.s_str3, DS.s_int1, DS.s_int2, DS.s_get1, DS.s_get2, DS.s_dct0, DS.s_fz1, DS.s_fz2, DS.s_fz3, DS.s_bf1, DS.s_bf2, DS.s_bf3, DS.s_tr0, DS.s_tr1, DS.s_tr2, DS.s_tr3, DS.s_tr4, DS.s_tr5, DS.s_tr6, DS.s_av0, DS.s_av1, DS.s_av2, DS.s_ag0, DS.s_ag1, DS.s_ag2, DS.s_ty1, DS.s_ty2, DS.s_ty3, DS.s_ix0, DS.s_at0, DS.ex_cons, DS.s_dep1, DS.s_dep2, DS.s_dep3, DS.s_key1, DS.s_key2, DS.s_key3, DS.s_ot0, DS.ex_one, DS.s_ot1, DS.s_sq1, DS.s_sq2, DS.s_sq3, DS.s_sq4, DS.s_rg1, DS.s_rg2, DS.s_en, DS.s_it, DS.s_vl, List.map_cons, List.map_nil, List.cons_append, List.nil_append, List.length_cons, List.length_nil, List.replicate, Nat.add_one_sub_one, Nat.reduceAdd, Nat.reduceSub, List.append_nil, List.getElem?_cons_zero, List.getElem?_cons_succ, List.set_cons_zero, List.set_cons_succ, Option.map_some, Option.some.injEq, exists_eq_left', exists_eq', exists_eq_left, DS.O.pu.injEq, DS.O.fl.injEq, DS.O.fd.injEq, DS.wipeE, DS.backE, Option.getD_some, Option.getD_none, DS.D.bl.injEq, true_and, and_true, if_true, if_false, reduceCtorEq, Bool.false_eq_true, List.nodup_nil, List.nodup_cons, List.not_mem_nil, not_false_eq_true, exists_const, DS.s_at20, DS.s_at21, DS.s_at30, DS.s_at31, DS.s_at32, DS.s_revt, DS.p_non, DS.i_int_non, DS.i_bool_non, DS.i_str_non, DS.i_tuple_non, DS.i_list_non, DS.i_dict_non, DS.i_lt_non, DS.p_bl, DS.i_int_bl, DS.i_bool_bl, DS.i_str_bl, DS.i_tuple_bl, DS.i_list_bl, DS.i_dict_bl, DS.i_lt_bl, DS.p_int, DS.i_int_int, DS.i_bool_int, DS.i_str_int, DS.i_tuple_int, DS.i_list_int, DS.i_dict_int, DS.i_lt_int, DS.p_str, DS.i_int_str, DS.i_bool_str, DS.i_str_str, DS.i_tuple_str, DS.i_list_str, DS.i_dict_str, DS.i_lt_str, DS.p_lst, DS.i_int_lst, DS.i_bool_lst, DS.i_str_lst, DS.i_tuple_lst, DS.i_list_lst, DS.i_dict_lst, DS.i_lt_lst, DS.p_tup, DS.i_int_tup, DS.i_bool_tup, DS.i_str_tup, DS.i_tuple_tup, DS.i_list_tup, DS.i_dict_tup, DS.i_lt_tup, DS.p_dct, DS.i_int_dct, DS.i_bool_dct, DS.i_str_dct, DS.i_tuple_dct, DS.i_list_dct, DS.i_dict_dct, DS.i_lt_dct, DS.ite_tt, DS.ite_ff, Bool.not_true, Bool.not_false, true_and]; exact ⟨cmp_int, hk⟩
    | [_, _], hd, hk => simp only [DS.wSs, DS.wS, DS.wE, DS.wEs, DS.wAs, DS.wOI, DS.wCs, DS.asK, DS.tkD, DS.avIos, DS.putOs, DS.setAll, DS.opW, DS.bindT, DS.bindTs, DS.startE, DS.mTy, DS.ex_some, DS.ex_publ, DS.ex_int, DS.ex_int2, DS.ex_tup, DS.s_add1, DS.s_add2, DS.s_add3, DS.s_add4, DS.s_sub, DS.s_mul1, DS.s_mul2, DS.s_fdiv, DS.s_mod, DS.s_pow, DS.s_neg, DS.s_cmp1, DS.s_cmp2, DS.s_eq, DS.s_isN, DS.s_in1, DS.s_in2, DS.s_in3, DS.s_in4, DS.s_idx1, DS.s_idx2, DS.s_idx3, DS.s_idx4, DS.s_slc1, DS.s_slc2, DS.s_slc3, DS.s_slc4, DS.s_rev, DS.s_len1, DS.s_len2, DS.s_len3, DS.s_len4, DS.s_len5, DS.s_list1, DS.s_list2, DS.s_list3, DS.s_tuple1, DS.s_tuple2, DS.s_dict1, DS.s_dict2, DS.s_max2, DS.s_min2, DS.s_abs, DS.s_isi, DS.s_sum, DS.s_join, DS.s_upper, DS.s_items, DS.s_vals, DS.s_all, DS.s_str1, DS.s_str2, DS.s_str3, DS.s_int1, DS.s_int2, DS.s_get1, DS.s_get2, DS.s_dct0, DS.s_fz1, DS.s_fz2, DS.s_fz3, DS.s_bf1, DS.s_bf2, DS.s_bf3, DS.s_tr0, DS.s_tr1, DS.s_tr2, DS.s_tr3, DS.s_tr4, DS.s_tr5, DS.s_tr6, DS.s_av0, DS.s_av1, DS.s_av2, DS.s_ag0, DS.s_ag1, DS.s_ag2, DS.s_ty1, DS.s_ty2, DS.s_ty3, DS.s_ix0, DS.s_at0, DS.ex_cons, DS.s_dep1, DS.s_dep2, DS.s_dep3, DS.s_key1, DS.s_key2, DS.s_key3, DS.s_ot0, DS.ex_one, DS.s_ot1, DS.s_sq1, DS.s_sq2, DS.s_sq3, DS.s_sq4, DS.s_rg1, DS.s_rg2, DS.s_en, DS.s_it, DS.s_vl, List.map_cons, List.map_nil, List.cons_append, List.nil_append, List.length_cons, List.length_nil, List.replicate, Nat.add_one_sub_one, Nat.reduceAdd, Nat.reduceSub, List.append_nil, List.getElem?_cons_zero, List.getElem?_cons_succ, List.set_cons_zero, List.set_cons_succ, Option.map_some, Option.some.injEq, exists_eq_left', exists_eq', exists_eq_left, DS.O.pu.injEq, DS.O.fl.injEq, DS.O.fd.injEq, DS.wipeE, DS.backE, Option.getD_some, Option.getD_none, DS.D.bl.injEq, true_and, and_true, if_true, if_false, reduceCtorEq, Bool.false_eq_true, List.nodup_nil, List.nodup_cons, List.not_mem_nil, not_false_eq_true, exists_const, DS.s_at20, DS.s_at21, DS.s_at30, DS.s_at31, DS.s_at32, DS.s_revt, DS.p_non, DS.i_int_non, DS.i_bool_non, DS.i_str_non, DS.i_tuple_non, DS.i_list_non, DS.i_dict_non, DS.i_lt_non, DS.p_bl, DS.i_int_bl, DS.i_bool_bl, DS.i_str_bl, DS.i_tuple_bl, DS.i_list_bl, DS.i_dict_bl, DS.i_lt_bl, DS.p_int, DS.i_int_int, DS.i_bool_int, DS.i_str_int, DS.i_tuple_int, DS.i_list_int, DS.i_dict_int, DS.i_lt_int, DS.p_str, DS.i_int_str, DS.i_bool_str, DS.i_str_str, DS.i_tuple_str, DS.i_list_str, DS.i_dict_str, DS.i_lt_str, DS.p_lst, DS.i_int_lst, DS.i_bool_lst, DS.i_str_lst, DS.i_tuple_lst, DS.i_list_lst, DS.i_dict_lst, DS.i_lt_lst, DS.p_tup, DS.i_int_tup, DS.i_bool_tup, DS.i_str_tup, DS.i_tuple_tup, DS.i_list_tup, DS.i_dict_tup, DS.i_lt_tup, DS.p_dct, DS.i_int_dct, DS.i_bool_dct, DS.i_str_dct, DS.i_tuple_dct, DS.i_list_dct, DS.i_dict_dct, DS.i_lt_dct, DS.ite_tt, DS.ite_ff, Bool.not_true, Bool.not_false, true_and]; exact ⟨cmp_int, hk⟩
    | [l, r, b], hd, hk =>
      have al : Askd l := hd rfl l (by simp)
      have ar : Askd r := hd rfl r (by simp)
      have ab : Askd b := hd rfl b (by simp)
      simp only [DS.wSs, DS.wS, DS.wE, DS.wEs, DS.wAs, DS.wOI, DS.wCs, DS.asK, DS.tkD, DS.avIos, DS.putOs, DS.setAll, DS.opW, DS.bindT, DS.bindTs, DS.startE, DS.mTy, DS.ex_some, DS.ex_publ, DS.ex_int, DS.ex_int2, DS.ex_tup, DS.s_add1, DS.s_add2, DS.s_add3, DS.s_add4, DS.s_sub, DS.s_mul1, DS.s_mul2, DS.s_fdiv, DS.s_mod, DS.s_pow, DS.s_neg, DS.s_cmp1, DS.s_cmp2, DS.s_eq, DS.s_isN, DS.s_in1, DS.s_in2, DS.s_in3, DS.s_in4, DS.s_idx1, DS.s_idx2, DS.s_idx3, DS.s_idx4, DS.s_slc1, DS.s_slc2, DS.s_slc3, DS.s_slc4, DS.s_rev, DS.s_len1, DS.s_len2, DS.s_len3, DS.s_len4, DS.s_len5, DS.s_list1, DS.s_list2, DS.s_list3, DS.s_tuple1, DS.s_tuple2, DS.s_dict1, DS.s_dict2, DS.s_max2, DS.s_min2, DS.s_abs, DS.s_isi, DS.s_sum, DS.s_join, DS.s_upper, DS.s_items, DS.s_vals, DS.s_all, DS.s_str1, DS.s_str2, DS.s_str3, DS.s_int1, DS.s_int2, DS.s_get1, DS.s_get2, DS.s_dct0, DS.s_fz1, DS.s_fz2, DS.s_fz3, DS.s_bf1, DS.s_bf2, DS.s_bf3, DS.s_tr0, DS.s_tr1, DS.s_tr2, DS.s_tr3, DS.s_tr4, DS.s_tr5, DS.s_tr6, DS.s_av0, DS.s_av1, DS.s_av2, DS.s_ag0, DS.s_ag1, DS.s_ag2, DS.s_ty1, DS.s_ty2, DS.s_ty3, DS.s_ix0, DS.s_at0, DS.ex_cons, DS.s_dep1, DS.s_dep2, DS.s_dep3, DS.s_key1, DS.s_key2, DS.s_key3, DS.s_ot0, DS.ex_one, DS.s_ot1, DS.s_sq1, DS.s_sq2, DS.s_sq3, DS.s_sq4, DS.s_rg1, DS.s_rg2, DS.s_en, DS.s_it, DS.s_vl, List.map_cons, List.map_nil, List.cons_append, List.nil_append, List.length_cons, List.length_nil, List.replicate, Nat.add_one_sub_one, Nat.reduceAdd, Nat.reduceSub, List.append_nil, List.getElem?_cons_zero, List.getElem?_cons_succ, List.set_cons_zero, List.set_cons_succ, Option.map_some, Option.some.injEq, exists_eq_left', exists_eq', exists_eq_left, DS.O.pu.injEq, DS.O.fl.injEq, DS.O.fd.injEq, DS.wipeE, DS.backE, Option.getD_some, Option.getD_none, DS.D.bl.injEq, true_and, and_true, if_true, if_false, reduceCtorEq, Bool.false_eq_true, List.nodup_nil, List.nodup_cons, List.not_mem_nil, not_false_eq_true, exists_const, DS.s_at20, DS.s_at21, DS.s_at30, DS.s_at31, DS.s_at32, DS.s_revt, DS.p_non, DS.i_int_non, DS.i_bool_non, DS.i_str_non, DS.i_tuple_non, DS.i_list_non, DS.i_dict_non, DS.i_lt_non, DS.p_bl, DS.i_int_bl, DS.i_bool_bl, DS.i_str_bl, DS.i_tuple_bl, DS.i_list_bl, DS.i_dict_bl, DS.i_lt_bl, DS.p_int, DS.i_int_int, DS.i_bool_int, DS.i_str_int, DS.i_tuple_int, DS.i_list_int, DS.i_dict_int, DS.i_lt_int, DS.p_str, DS.i_int_str, DS.i_bool_str, DS.i_str_str, DS.i_tuple_str, DS.i_list_str, DS.i_dict_str, DS.i_lt_str, DS.p_lst, DS.i_int_lst, DS.i_bool_lst, DS.i_str_lst, DS.i_tuple_lst, DS.i_list_lst, DS.i_dict_lst, DS.i_lt_lst, DS.p_tup, DS.i_int_tup, DS.i_bool_tup, DS.i_str_tup, DS.i_tuple_tup, DS.i_list_tup, DS.i_dict_tup, DS.i_lt_tup, DS.p_dct, DS.i_int_dct, DS.i_bool_dct, DS.i_str_dct, DS.i_tuple_dct, DS.i_list_dct, DS.i_dict_dct, DS.i_lt_dct, DS.ite_tt, DS.ite_ff, Bool.not_true, Bool.not_false, true_and, ht, hn]
      refine ⟨cmp_int, ?_⟩
      have e3 : (deq (D.int ((3 : Nat) : Int)) (D.int 3) == false) = false := by decide
      simp only [e3, DS.wSs, DS.wS, DS.wE, DS.wEs, DS.wAs, DS.wOI, DS.wCs, DS.asK, DS.tkD, DS.avIos, DS.putOs, DS.setAll, DS.opW, DS.bindT, DS.bindTs, DS.startE, DS.mTy, DS.ex_some, DS.ex_publ, DS.ex_int, DS.ex_int2, DS.ex_tup, DS.s_add1, DS.s_add2, DS.s_add3, DS.s_add4, DS.s_sub, DS.s_mul1, DS.s_mul2, DS.s_fdiv, DS.s_mod, DS.s_pow, DS.s_neg, DS.s_cmp1, DS.s_cmp2, DS.s_eq, DS.s_isN, DS.s_in1, DS.s_in2, DS.s_in3, DS.s_in4, DS.s_idx1, DS.s_idx2, DS.s_idx3, DS.s_idx4, DS.s_slc1, DS.s_slc2, DS.s_slc3, DS.s_slc4, DS.s_rev, DS.s_len1, DS.s_len2, DS.s_len3, DS.s_len4, DS.s_len5, DS.s_list1, DS.s_list2, DS.s_list3, DS.s_tuple1, DS.s_tuple2, DS.s_dict1, DS.s_dict2, DS.s_max2, DS.s_min2, DS.s_abs, DS.s_isi, DS.s_sum, DS.s_join, DS.s_upper, DS.s_items, DS.s_vals, DS.s_all, DS.s_str1, DS.s_str2, DS.s_str3, DS.s_int1, DS.s_int2, DS.s_get1, DS.s_get2, DS.s_dct0, DS.s_fz1, DS.s_fz2, DS.s_fz3, DS.s_bf1, DS.s_bf2, DS.s_bf3, DS.s_tr0, DS.s_tr1, DS.s_tr2, DS.s_tr3, DS.s_tr4, DS.s_tr5, DS.s_tr6, DS.s_av0, DS.s_av1, DS.s_av2, DS.s_ag0, DS.s_ag1, DS.s_ag2, DS.s_ty1, DS.s_ty2, DS.s_ty3, DS.s_ix0, DS.s_at0, DS.ex_cons, DS.s_dep1, DS.s_dep2, DS.s_dep3, DS.s_key1, DS.s_key2, DS.s_key3, DS.s_ot0, DS.ex_one, DS.s_ot1, DS.s_sq1, DS.s_sq2, DS.s_sq3, DS.s_sq4, DS.s_rg1, DS.s_rg2, DS.s_en, DS.s_it, DS.s_vl, List.map_cons, List.map_nil, List.cons_append, List.nil_append, List.length_cons, List.length_nil, List.replicate, Nat.add_one_sub_one, Nat.reduceAdd, Nat.reduceSub, List.append_nil, List.getElem?_cons_zero, List.getElem?_cons_succ, List.set_cons_zero, List.set_cons_succ, Option.map_some, Option.some.injEq, exists_eq_left', exists_eq', exists_eq_left, DS.O.pu.injEq, DS.O.fl.injEq, DS.O.fd.injEq, DS.wipeE, DS.backE, Option.getD_some, Option.getD_none, DS.D.bl.injEq, true_and, and_true, if_true, if_false, reduceCtorEq, Bool.false_eq_true, List.nodup_nil, List.nodup_cons, List.not_mem_nil, not_false_eq_true, exists_const, DS.s_at20, DS.s_at21, DS.s_at30, DS.s_at31, DS.s_at32, DS.s_revt, DS.p_non, DS.i_int_non, DS.i_bool_non, DS.i_str_non, DS.i_tuple_non, DS.i_list_non, DS.i_dict_non, DS.i_lt_non, DS.p_bl, DS.i_int_bl, DS.i_bool_bl, DS.i_str_bl, DS.i_tuple_bl, DS.i_list_bl, DS.i_dict_bl, DS.i_lt_bl, DS.p_int, DS.i_int_int, DS.i_bool_int, DS.i_str_int, DS.i_tuple_int, DS.i_list_int, DS.i_dict_int, DS.i_lt_int, DS.p_str, DS.i_int_str, DS.i_bool_str, DS.i_str_str, DS.i_tuple_str, DS.i_list_str, DS.i_dict_str, DS.i_lt_str, DS.p_lst, DS.i_int_lst, DS.i_bool_lst, DS.i_str_lst, DS.i_tuple_lst, DS.i_list_lst, DS.i_dict_lst, DS.i_lt_lst, DS.p_tup, DS.i_int_tup, DS.i_bool_tup, DS.i_str_tup, DS.i_tuple_tup, DS.i_list_tup, DS.i_dict_tup, DS.i_lt_tup, DS.p_dct, DS.i_int_dct, DS.i_bool_dct, DS.i_str_dct, DS.i_tuple_dct, DS.i_list_dct, DS.i_dict_dct, DS.i_lt_dct, DS.ite_tt, DS.ite_ff, Bool.not_true, Bool.not_false, true_and]
      refine ⟨l, rfl, al, rfl, _, rfl, ?_⟩
      cases hl : isTerm l with
      | false =>
        simp only [DS.wSs, DS.wS, DS.wE, DS.wEs, DS.wAs, DS.wOI, DS.wCs, DS.asK, DS.tkD, DS.avIos, DS.putOs, DS.setAll, DS.opW, DS.bindT, DS.bindTs, DS.startE, DS.mTy, DS.ex_some, DS.ex_publ, DS.ex_int, DS.ex_int2, DS.ex_tup, DS.s_add1, DS.s_add2, DS.s_add3, DS.s_add4, DS.s_sub, DS.s_mul1, DS.s_mul2, DS.s_fdiv, DS.s_mod, DS.s_pow, DS.s_neg, DS.s_cmp1, DS.s_cmp2, DS.s_eq, DS.s_isN, DS.s_in1, DS.s_in2, DS.s_in3, DS.s_in4, DS.s_idx1, DS.s_idx2, DS.s_idx3, DS.s_idx4, DS.s_slc1, DS.s_slc2, DS.s_slc3, DS.s_slc4, DS.s_rev, DS.s_len1, DS.s_len2, DS.s_len3, DS.s_len4, DS.s_len5, DS.s_list1, DS.s_list2, DS.s_list3, DS.s_tuple1, DS.s_tuple2, DS.s_dict1, DS.s_dict2, DS.s_max2, DS.s_min2, DS.s_abs, DS.s_isi, DS.s_sum, DS.s_join, DS.s_upper, DS.s_items, DS.s_vals, DS.s_all, DS.s_str1, DS.s_str2, DS.s_str3, DS.s_int1, DS.s_int2, DS.s_get1, DS.s_get2, DS.s_dct0, DS.s_fz1, DS.s_fz2, DS.s_fz3, DS.s_bf1, DS.s_bf2, DS.s_bf3, DS.s_tr0, DS.s_tr1, DS.s_tr2, DS.s_tr3, DS.s_tr4, DS.s_tr5, DS.s_tr6, DS.s_av0, DS.s_av1, DS.s_av2, DS.s_ag0, DS.s_ag1, DS.s_ag2, DS.s_ty1, DS.s_ty2, DS.s_ty3, DS.s_ix0, DS.s_at0, DS.ex_cons, DS.s_dep1, DS.s_dep2, DS.s_dep3, DS.s_key1, DS.s_key2, DS.s_key3, DS.s_ot0, DS.ex_one, DS.s_ot1, DS.s_sq1, DS.s_sq2, DS.s_sq3, DS.s_sq4, DS.s_rg1, DS.s_rg2, DS.s_en, DS.s_it, DS.s_vl, List.map_cons, List.map_nil, List.cons_append, List.nil_append, List.length_cons, List.length_nil, List.replicate, Nat.add_one_sub_one, Nat.reduceAdd, Nat.reduceSub, List.append_nil, List.getElem?_cons_zero, List.getElem?_cons_succ, List.set_cons_zero, List.set_cons_succ, Option.map_some, Option.some.injEq, exists_eq_left', exists_eq', exists_eq_left, DS.O.pu.injEq, DS.O.fl.injEq, DS.O.fd.injEq, DS.wipeE, DS.backE, Option.getD_some, Option.getD_none, DS.D.bl.injEq, true_and, and_true, if_true, if_false, reduceCtorEq, Bool.false_eq_true, List.nodup_nil, List.nodup_cons, List.not_mem_nil, not_false_eq_true, exists_const, DS.s_at20, DS.s_at21, DS.s_at30, DS.s_at31, DS.s_at32, DS.s_revt, DS.p_non, DS.i_int_non, DS.i_bool_non, DS.i_str_non, DS.i_tuple_non, DS.i_list_non, DS.i_dict_non, DS.i_lt_non, DS.p_bl, DS.i_int_bl, DS.i_bool_bl, DS.i_str_bl, DS.i_tuple_bl, DS.i_list_bl, DS.i_dict_bl, DS.i_lt_bl, DS.p_int, DS.i_int_int, DS.i_bool_int, DS.i_str_int, DS.i_tuple_int, DS.i_list_int, DS.i_dict_int, DS.i_lt_int, DS.p_str, DS.i_int_str, DS.i_bool_str, DS.i_str_str, DS.i_tuple_str, DS.i_list_str, DS.i_dict_str, DS.i_lt_str, DS.p_lst, DS.i_int_lst, DS.i_bool_lst, DS.i_str_lst, DS.i_tuple_lst, DS.i_list_lst, DS.i_dict_lst, DS.i_lt_lst, DS.p_tup, DS.i_int_tup, DS.i_bool_tup, DS.i_str_tup, DS.i_tuple_tup, DS.i_list_tup, DS.i_dict_tup, DS.i_lt_tup, DS.p_dct, DS.i_int_dct, DS.i_bool_dct, DS.i_str_dct, DS.i_tuple_dct, DS.i_list_dct, DS.i_dict_dct, DS.i_lt_dct, DS.ite_tt, DS.ite_ff, Bool.not_true, Bool.not_false, true_and]
        have : isCons (.tup [l, r, b]) = false := by simp [isCons, hl]
        rw [this] at hk
        exact hk
      | true =>
        simp only [DS.wSs, DS.wS, DS.wE, DS.wEs, DS.wAs, DS.wOI, DS.wCs, DS.asK, DS.tkD, DS.avIos, DS.putOs, DS.setAll, DS.opW, DS.bindT, DS.bindTs, DS.startE, DS.mTy, DS.ex_some, DS.ex_publ, DS.ex_int, DS.ex_int2, DS.ex_tup, DS.s_add1, DS.s_add2, DS.s_add3, DS.s_add4, DS.s_sub, DS.s_mul1, DS.s_mul2, DS.s_fdiv, DS.s_mod, DS.s_pow, DS.s_neg, DS.s_cmp1, DS.s_cmp2, DS.s_eq, DS.s_isN, DS.s_in1, DS.s_in2, DS.s_in3, DS.s_in4, DS.s_idx1, DS.s_idx2, DS.s_idx3, DS.s_idx4, DS.s_slc1, DS.s_slc2, DS.s_slc3, DS.s_slc4, DS.s_rev, DS.s_len1, DS.s_len2, DS.s_len3, DS.s_len4, DS.s_len5, DS.s_list1, DS.s_list2, DS.s_list3, DS.s_tuple1, DS.s_tuple2, DS.s_dict1, DS.s_dict2, DS.s_max2, DS.s_min2, DS.s_abs, DS.s_isi, DS.s_sum, DS.s_join, DS.s_upper, DS.s_items, DS.s_vals, DS.s_all, DS.s_str1, DS.s_str2, DS.s_str3, DS.s_int1, DS.s_int2, DS.s_get1, DS.s_get2, DS.s_dct0, DS.s_fz1, DS.s_fz2, DS.s_fz3, DS.s_bf1, DS.s_bf2, DS.s_bf3, DS.s_tr0, DS.s_tr1, DS.s_tr2, DS.s_tr3, DS.s_tr4, DS.s_tr5, DS.s_tr6, DS.s_av0, DS.s_av1, DS.s_av2, DS.s_ag0, DS.s_ag1, DS.s_ag2, DS.s_ty1, DS.s_ty2, DS.s_ty3, DS.s_ix0, DS.s_at0, DS.ex_cons, DS.s_dep1, DS.s_dep2, DS.s_dep3, DS.s_key1, DS.s_key2, DS.s_key3, DS.s_ot0, DS.ex_one, DS.s_ot1, DS.s_sq1, DS.s_sq2, DS.s_sq3, DS.s_sq4, DS.s_rg1, DS.s_rg2, DS.s_en, DS.s_it, DS.s_vl, List.map_cons, List.map_nil, List.cons_append, List.nil_append, List.length_cons, List.length_nil, List.replicate, Nat.add_one_sub_one, Nat.reduceAdd, Nat.reduceSub, List.append_nil, List.getElem?_cons_zero, List.getElem?_cons_succ, List.set_cons_zero, List.set_cons_succ, Option.map_some, Option.some.injEq, exists_eq_left', exists_eq', exists_eq_left, DS.O.pu.injEq, DS.O.fl.injEq, DS.O.fd.injEq, DS.wipeE, DS.backE, Option.getD_some, Option.getD_none, DS.D.bl.injEq, true_and, and_true, if_true, if_false, reduceCtorEq, Bool.false_eq_true, List.nodup_nil, List.nodup_cons, List.not_mem_nil, not_false_eq_true, exists_const, DS.s_at20, DS.s_at21, DS.s_at30, DS.s_at31, DS.s_at32, DS.s_revt, DS.p_non, DS.i_int_non, DS.i_bool_non, DS.i_str_non, DS.i_tuple_non, DS.i_list_non, DS.i_dict_non, DS.i_lt_non, DS.p_bl, DS.i_int_bl, DS.i_bool_bl, DS.i_str_bl, DS.i_tuple_bl, DS.i_list_bl, DS.i_dict_bl, DS.i_lt_bl, DS.p_int, DS.i_int_int, DS.i_bool_int, DS.i_str_int, DS.i_tuple_int, DS.i_list_int, DS.i_dict_int, DS.i_lt_int, DS.p_str, DS.i_int_str, DS.i_bool_str, DS.i_str_str, DS.i_tuple_str, DS.i_list_str, DS.i_dict_str, DS.i_lt_str, DS.p_lst, DS.i_int_lst, DS.i_bool_lst, DS.i_str_lst, DS.i_tuple_lst, DS.i_list_lst, DS.i_dict_lst, DS.i_lt_lst, DS.p_tup, DS.i_int_tup, DS.i_bool_tup, DS.i_str_tup, DS.i_tuple_tup, DS.i_list_tup, DS.i_dict_tup, DS.i_lt_tup, DS.p_dct, DS.i_int_dct, DS.i_bool_dct, DS.i_str_dct, DS.i_tuple_dct, DS.i_list_dct, DS.i_dict_dct, DS.i_lt_dct, DS.ite_tt, DS.ite_ff, Bool.not_true, Bool.not_false, true_and]
        refine ⟨r, rfl, ar, rfl, _, rfl, ?_⟩
        cases hr : isTerm r with
        | false =>
          simp only [DS.wSs, DS.wS, DS.wE, DS.wEs, DS.wAs, DS.wOI, DS.wCs, DS.asK, DS.tkD, DS.avIos, DS.putOs, DS.setAll, DS.opW, DS.bindT, DS.bindTs, DS.startE, DS.mTy, DS.ex_some, DS.ex_publ, DS.ex_int, DS.ex_int2, DS.ex_tup, DS.s_add1, DS.s_add2, DS.s_add3, DS.s_add4, DS.s_sub, DS.s_mul1, DS.s_mul2, DS.s_fdiv, DS.s_mod, DS.s_pow, DS.s_neg, DS.s_cmp1, DS.s_cmp2, DS.s_eq, DS.s_isN, DS.s_in1, DS.s_in2, DS.s_in3, DS.s_in4, DS.s_idx1, DS.s_idx2, DS.s_idx3, DS.s_idx4, DS.s_slc1, DS.s_slc2, DS.s_slc3, DS.s_slc4, DS.s_rev, DS.s_len1, DS.s_len2, DS.s_len3, DS.s_len4, DS.s_len5, DS.s_list1, DS.s_list2, DS.s_list3, DS.s_tuple1, DS.s_tuple2, DS.s_dict1, DS.s_dict2, DS.s_max2, DS.s_min2, DS.s_abs, DS.s_isi, DS.s_sum, DS.s_join, DS.s_upper, DS.s_items, DS.s_vals, DS.s_all, DS.s_str1, DS.s_str2, DS.s_str3, DS.s_int1, DS.s_int2, DS.s_get1, DS.s_get2, DS.s_dct0, DS.s_fz1, DS.s_fz2, DS.s_fz3, DS.s_bf1, DS.s_bf2, DS.s_bf3, DS.s_tr0, DS.s_tr1, DS.s_tr2, DS.s_tr3, DS.s_tr4, DS.s_tr5, DS.s_tr6, DS.s_av0, DS.s_av1, DS.s_av2, DS.s_ag0, DS.s_ag1, DS.s_ag2, DS.s_ty1, DS.s_ty2, DS.s_ty3, DS.s_ix0, DS.s_at0, DS.ex_cons, DS.s_dep1, DS.s_dep2, DS.s_dep3, DS.s_key1, DS.s_key2, DS.s_key3, DS.s_ot0, DS.ex_one, DS.s_ot1, DS.s_sq1, DS.s_sq2, DS.s_sq3, DS.s_sq4, DS.s_rg1, DS.s_rg2, DS.s_en, DS.s_it, DS.s_vl, List.map_cons, List.map_nil, List.cons_append, List.nil_append, List.length_cons, List.length_nil, List.replicate, Nat.add_one_sub_one, Nat.reduceAdd, Nat.reduceSub, List.append_nil, List.getElem?_cons_zero, List.getElem?_cons_succ, List.set_cons_zero, List.set_cons_succ, Option.map_some, Option.some.injEq, exists_eq_left', exists_eq', exists_eq_left, DS.O.pu.injEq, DS.O.fl.injEq, DS.O.fd.injEq, DS.wipeE, DS.backE, Option.getD_some, Option.getD_none, DS.D.bl.injEq, true_and, and_true, if_true, if_false, reduceCtorEq, Bool.false_eq_true, List.nodup_nil, List.nodup_cons, List.not_mem_nil, not_false_eq_true, exists_const, DS.s_at20, DS.s_at21, DS.s_at30, DS.s_at31, DS.s_at32, DS.s_revt, DS.p_non, DS.i_int_non, DS.i_bool_non, DS.i_str_non, DS.i_tuple_non, DS.i_list_non, DS.i_dict_non, DS.i_lt_non, DS.p_bl, DS.i_int_bl, DS.i_bool_bl, DS.i_str_bl, DS.i_tuple_bl, DS.i_list_bl, DS.i_dict_bl, DS.i_lt_bl, DS.p_int, DS.i_int_int, DS.i_bool_int, DS.i_str_int, DS.i_tuple_int, DS.i_list_int, DS.i_dict_int, DS.i_lt_int, DS.p_str, DS.i_int_str, DS.i_bool_str, DS.i_str_str, DS.i_tuple_str, DS.i_list_str, DS.i_dict_str, DS.i_lt_str, DS.p_lst, DS.i_int_lst, DS.i_bool_lst, DS.i_str_lst, DS.i_tuple_lst, DS.i_list_lst, DS.i_dict_lst, DS.i_lt_lst, DS.p_tup, DS.i_int_tup, DS.i_bool_tup, DS.i_str_tup, DS.i_tuple_tup, DS.i_list_tup, DS.i_dict_tup, DS.i_lt_tup, DS.p_dct, DS.i_int_dct, DS.i_bool_dct, DS.i_str_dct, DS.i_tuple_dct, DS.i_list_dct, DS.i_dict_dct, DS.i_lt_dct, DS.ite_tt, DS.ite_ff, Bool.not_true, Bool.not_false, true_and]
          have : isCons (.tup [l, r, b]) = false := by simp [isCons, hr]
          rw [this] at hk
          exact hk
        | true =>
          simp only [DS.wSs, DS.wS, DS.wE, DS.wEs, DS.wAs, DS.wOI, DS.wCs, DS.asK, DS.tkD, DS.avIos, DS.putOs, DS.setAll, DS.opW, DS.bindT, DS.bindTs, DS.startE, DS.mTy, DS.ex_some, DS.ex_publ, DS.ex_int, DS.ex_int2, DS.ex_tup, DS.s_add1, DS.s_add2, DS.s_add3, DS.s_add4, DS.s_sub, DS.s_mul1, DS.s_mul2, DS.s_fdiv, DS.s_mod, DS.s_pow, DS.s_neg, DS.s_cmp1, DS.s_cmp2, DS.s_eq, DS.s_isN, DS.s_in1, DS.s_in2, DS.s_in3, DS.s_in4, DS.s_idx1, DS.s_idx2, DS.s_idx3, DS.s_idx4, DS.s_slc1, DS.s_slc2, DS.s_slc3, DS.s_slc4, DS.s_rev, DS.s_len1, DS.s_len2, DS.s_len3, DS.s_len4, DS.s_len5, DS.s_list1, DS.s_list2, DS.s_list3, DS.s_tuple1, DS.s_tuple2, DS.s_dict1, DS.s_dict2, DS.s_max2, DS.s_min2, DS.s_abs, DS.s_isi, DS.s_sum, DS.s_join, DS.s_upper, DS.s_items, DS.s_vals, DS.s_all, DS.s_str1, DS.s_str2, DS.s_str3, DS.s_int1, DS.s_int2, DS.s_get1, DS.s_get2, DS.s_dct0, DS.s_fz1, DS.s_fz2, DS.s_fz3, DS.s_bf1, DS.s_bf2, DS.s_bf3, DS.s_tr0, DS.s_tr1, DS.s_tr2, DS.s_tr3, DS.s_tr4, DS.s_tr5, DS.s_tr6, DS.s_av0, DS.s_av1, DS.s_av2, DS.s_ag0, DS.s_ag1, DS.s_ag2, DS.s_ty1, DS.s_ty2, DS.s_ty3, DS.s_ix0, DS.s_at0, DS.ex_cons, DS.s_dep1, DS.s_dep2, DS.s_dep3, DS.s_key1, DS.s_key2, DS.s_key3, DS.s_ot0, DS.ex_one, DS.s_ot1, DS.s_sq1, DS.s_sq2, DS.s_sq3, DS.s_sq4, DS.s_rg1, DS.s_rg2, DS.s_en, DS.s_it, DS.s_vl, List.map_cons, List.map_nil, List.cons_append, List.nil_append, List.length_cons, List.length_nil, List.replicate, Nat.add_one_sub_one, Nat.reduceAdd, Nat.reduceSub, List.append_nil, List.getElem?_cons_zero, List.getElem?_cons_succ, List.set_cons_zero, List.set_cons_succ, Option.map_some, Option.some.injEq, exists_eq_left', exists_eq', exists_eq_left, DS.O.pu.injEq, DS.O.fl.injEq, DS.O.fd.injEq, DS.wipeE, DS.backE, Option.getD_some, Option.getD_none, DS.D.bl.injEq, true_and, and_true, if_true, if_false, reduceCtorEq, Bool.false_eq_true, List.nodup_nil, List.nodup_cons, List.not_mem_nil, not_false_eq_true, exists_const, DS.s_at20, DS.s_at21, DS.s_at30, DS.s_at31, DS.s_at32, DS.s_revt, DS.p_non, DS.i_int_non, DS.i_bool_non, DS.i_str_non, DS.i_tuple_non, DS.i_list_non, DS.i_dict_non, DS.i_lt_non, DS.p_bl, DS.i_int_bl, DS.i_bool_bl, DS.i_str_bl, DS.i_tuple_bl, DS.i_list_bl, DS.i_dict_bl, DS.i_lt_bl, DS.p_int, DS.i_int_int, DS.i_bool_int, DS.i_str_int, DS.i_tuple_int, DS.i_list_int, DS.i_dict_int, DS.i_lt_int, DS.p_str, DS.i_int_str, DS.i_bool_str, DS.i_str_str, DS.i_tuple_str, DS.i_list_str, DS.i_dict_str, DS.i_lt_str, DS.p_lst, DS.i_int_lst, DS.i_bool_lst, DS.i_str_lst, DS.i_tuple_lst, DS.i_list_lst, DS.i_dict_lst, DS.i_lt_lst, DS.p_tup, DS.i_int_tup, DS.i_bool_tup, DS.i_str_tup, DS.i_tuple_tup, DS.i_list_tup, DS.i_dict_tup, DS.i_lt_tup, DS.p_dct, DS.i_int_dct, DS.i_bool_dct, DS.i_str_dct, DS.i_tuple_dct, DS.i_list_dct, DS.i_dict_dct, DS.i_lt_dct, DS.ite_tt, DS.ite_ff, Bool.not_true, Bool.not_false, true_and]
          refine ⟨cmp_terms hl hr, ?_⟩
          by_cases he : deq l r = true
          · simp only [he, DS.wSs, DS.wS, DS.wE, DS.wEs, DS.wAs, DS.wOI, DS.wCs, DS.asK, DS.tkD, DS.avIos, DS.putOs, DS.setAll, DS.opW, DS.bindT, DS.bindTs, DS.startE, DS.mTy, DS.ex_some, DS.ex_publ, DS.ex_int, DS.ex_int2, DS.ex_tup, DS.s_add1, DS.s_add2, DS.s_add3, DS.s_add4, DS.s_sub, DS.s_mul1, DS.s_mul2, DS.s_fdiv, DS.s_mod, DS.s_pow, DS.s_neg, DS.s_cmp1, DS.s_cmp2, DS.s_eq, DS.s_isN, DS.s_in1, DS.s_in2, DS.s_in3, DS.s_in4, DS.s_idx1, DS.s_idx2, DS.s_idx3, DS.s_idx4, DS.s_slc1, DS.s_slc2, DS.s_slc3, DS.s_slc4, DS.s_rev, DS.s_len1, DS.s_len2, DS.s_len3, DS.s_len4, DS.s_len5, DS.s_list1, DS.s_list2, DS.s_list3, DS.s_tuple1, DS.s_tuple2, DS.s_dict1, DS.s_dict2, DS.s_max2, DS.s_min2, DS.s_abs, DS.s_isi, DS.s_sum, DS.s_join, DS.s_upper, DS.s_items, DS.s_vals, DS.s_all, DS.s_str1, DS.s_str2, DS.s_str3, DS.s_int1, DS.s_int2, DS.s_get1, DS.s_get2, DS.s_dct0, DS.s_fz1, DS.s_fz2, DS.s_fz3, DS.s_bf1, DS.s_bf2, DS.s_bf3, DS.s_tr0, DS.s_tr1, DS.s_tr2, DS.s_tr3, DS.s_tr4, DS.s_tr5, DS.s_tr6, DS.s_av0, DS.s_av1, DS.s_av2, DS.s_ag0, DS.s_ag1, DS.s_ag2, DS.s_ty1, DS.s_ty2, DS.s_ty3, DS.s_ix0, DS.s_at0, DS.ex_cons, DS.s_dep1, DS.s_dep2, DS.s_dep3, DS.s_key1, DS.s_key2, DS.s_key3, DS.s_ot0, DS.ex_one, DS.s_ot1, DS.s_sq1, DS.s_sq2, DS.s_sq3, DS.s_sq4, DS.s_rg1, DS.s_rg2, DS.s_en, DS.s_it, DS.s_vl, List.map_cons, List.map_nil, List.cons_append, List.nil_append, List.length_cons, List.length_nil, List.replicate, Nat.add_one_sub_one, Nat.reduceAdd, Nat.reduceSub, List.append_nil, List.getElem?_cons_zero, List.getElem?_cons_succ, List.set_cons_zero, List.set_cons_succ, Option.map_some, Option.some.injEq, exists_eq_left', exists_eq', exists_eq_left, DS.O.pu.injEq, DS.O.fl.injEq, DS.O.fd.injEq, DS.wipeE, DS.backE, Option.getD_some, Option.getD_none, DS.D.bl.injEq, true_and, and_true, if_true, if_false, reduceCtorEq, Bool.false_eq_true, List.nodup_nil, List.nodup_cons, List.not_mem_nil, not_false_eq_true, exists_const, DS.s_at20, DS.s_at21, DS.s_at30, DS.s_at31, DS.s_at32, DS.s_revt, DS.p_non, DS.i_int_non, DS.i_bool_non, DS.i_str_non, DS.i_tuple_non, DS.i_list_non, DS.i_dict_non, DS.i_lt_non, DS.p_bl, DS.i_int_bl, DS.i_bool_bl, DS.i_str_bl, DS.i_tuple_bl, DS.i_list_bl, DS.i_dict_bl, DS.i_lt_bl, DS.p_int, DS.i_int_int, DS.i_bool_int, DS.i_str_int, DS.i_tuple_int, DS.i_list_int, DS.i_dict_int, DS.i_lt_int, DS.p_str, DS.i_int_str, DS.i_bool_str, DS.i_str_str, DS.i_tuple_str, DS.i_list_str, DS.i_dict_str, DS.i_lt_str, DS.p_lst, DS.i_int_lst, DS.i_bool_lst, DS.i_str_lst, DS.i_tuple_lst, DS.i_list_lst, DS.i_dict_lst, DS.i_lt_lst, DS.p_tup, DS.i_int_tup, DS.i_bool_tup, DS.i_str_tup, DS.i_tuple_tup, DS.i_list_tup, DS.i_dict_tup, DS.i_lt_tup, DS.p_dct, DS.i_int_dct, DS.i_bool_dct, DS.i_str_dct, DS.i_tuple_dct, DS.i_list_dct, DS.i_dict_dct, DS.i_lt_dct, DS.ite_tt, DS.ite_ff, Bool.not_true, Bool.not_false, true_and, tt]
            have : isCons (.tup [l, r, b]) = false := by simp [isCons, he]
            rw [this] at hk
            exact hk
          · have he : deq l r = false := by simpa using he
            simp only [he, DS.wSs, DS.wS, DS.wE, DS.wEs, DS.wAs, DS.wOI, DS.wCs, DS.asK, DS.tkD, DS.avIos, DS.putOs, DS.setAll, DS.opW, DS.bindT, DS.bindTs, DS.startE, DS.mTy, DS.ex_some, DS.ex_publ, DS.ex_int, DS.ex_int2, DS.ex_tup, DS.s_add1, DS.s_add2, DS.s_add3, DS.s_add4, DS.s_sub, DS.s_mul1, DS.s_mul2, DS.s_fdiv, DS.s_mod, DS.s_pow, DS.s_neg, DS.s_cmp1, DS.s_cmp2, DS.s_eq, DS.s_isN, DS.s_in1, DS.s_in2, DS.s_in3, DS.s_in4, DS.s_idx1, DS.s_idx2, DS.s_idx3, DS.s_idx4, DS.s_slc1, DS.s_slc2, DS.s_slc3, DS.s_slc4, DS.s_rev, DS.s_len1, DS.s_len2, DS.s_len3, DS.s_len4, DS.s_len5, DS.s_list1, DS.s_list2, DS.s_list3, DS.s_tuple1, DS.s_tuple2, DS.s_dict1, DS.s_dict2, DS.s_max2, DS.s_min2, DS.s_abs, DS.s_isi, DS.s_sum, DS.s_join, DS.s_upper, DS.s_items, DS.s_vals, DS.s_all, DS.s_str1, DS.s_str2, DS.s_str3, DS.s_int1, DS.s_int2, DS.s_get1, DS.s_get2, DS.s_dct0, DS.s_fz1, DS.s_fz2, DS.s_fz3, DS.s_bf1, DS.s_bf2, DS.s_bf3, DS.s_tr0, DS.s_tr1, DS.s_tr2, DS.s_tr3, DS.s_tr4, DS.s_tr5, DS.s_tr6, DS.s_av0, DS.s_av1, DS.s_av2, DS.s_ag0, DS.s_ag1, DS.s_ag2, DS.s_ty1, DS.s_ty2, DS.s_ty3, DS.s_ix0, DS.s_at0, DS.ex_cons, DS.s_dep1, DS.s_dep2, DS.s_dep3, DS.s_key1, DS.s_key2, DS.s_key3, DS.s_ot0, DS.ex_one, DS.s_ot1, DS.s_sq1, DS.s_sq2, DS.s_sq3, DS.s_sq4, DS.s_rg1, DS.s_rg2, DS.s_en, DS.s_it, DS.s_vl, List.map_cons, List.map_nil, List.cons_append, List.nil_append, List.length_cons, List.length_nil, List.replicate, Nat.add_one_sub_one, Nat.reduceAdd, Nat.reduceSub, List.append_nil, List.getElem?_cons_zero, List.getElem?_cons_succ, List.set_cons_zero, List.set_cons_succ, Option.map_some, Option.some.injEq, exists_eq_left', exists_eq', exists_eq_left, DS.O.pu.injEq, DS.O.fl.injEq, DS.O.fd.injEq, DS.wipeE, DS.backE, Option.getD_some, Option.getD_none, DS.D.bl.injEq, true_and, and_true, if_true, if_false, reduceCtorEq, Bool.false_eq_true, List.nodup_nil, List.nodup_cons, List.not_mem_nil, not_false_eq_true, exists_const, DS.s_at20, DS.s_at21, DS.s_at30, DS.s_at31, DS.s_at32, DS.s_revt, DS.p_non, DS.i_int_non, DS.i_bool_non, DS.i_str_non, DS.i_tuple_non, DS.i_list_non, DS.i_dict_non, DS.i_lt_non, DS.p_bl, DS.i_int_bl, DS.i_bool_bl, DS.i_str_bl, DS.i_tuple_bl, DS.i_list_bl, DS.i_dict_bl, DS.i_lt_bl, DS.p_int, DS.i_int_int, DS.i_bool_int, DS.i_str_int, DS.i_tuple_int, DS.i_list_int, DS.i_dict_int, DS.i_lt_int, DS.p_str, DS.i_int_str, DS.i_bool_str, DS.i_str_str, DS.i_tuple_str, DS.i_list_str, DS.i_dict_str, DS.i_lt_str, DS.p_lst, DS.i_int_lst, DS.i_bool_lst, DS.i_str_lst, DS.i_tuple_lst, DS.i_list_lst, DS.i_dict_lst, DS.i_lt_lst, DS.p_tup, DS.i_int_tup, DS.i_bool_tup, DS.i_str_tup, DS.i_tuple_tup, DS.i_list_tup, DS.i_dict_tup, DS.i_lt_tup, DS.p_dct, DS.i_int_dct, DS.i_bool_dct, DS.i_str_dct, DS.i_tuple_dct, DS.i_list_dct, DS.i_dict_dct, DS.i_lt_dct, DS.ite_tt, DS.ite_ff, Bool.not_true, Bool.not_false, true_and, ft]
            refine ⟨b, _, _, rfl, ab, ?_⟩
            have : isCons (.tup [l, r, b]) = isNum (-1000000000) 1000000000 b := by simp [isCons, he, hl, hr]
            rw [this] at hk
            exact ⟨rfl, hk⟩
    | _ :: _ :: _ :: _ :: ys, hd, hk =>
      simp only [DS.wSs, DS.wS, DS.wE, DS.wEs, DS.wAs, DS.wOI, DS.wCs, DS.asK, DS.tkD, DS.avIos, DS.putOs, DS.setAll, DS.opW, DS.bindT, DS.bindTs, DS.startE, DS.mTy, DS.ex_some, DS.ex_publ, DS.ex_int, DS.ex_int2, DS.ex_tup, DS.s_add1, DS.s_add2, DS.s_add3, DS.s_add4, DS.s_sub, DS.s_mul1, DS.s_mul2, DS.s_fdiv, DS.s_mod, DS.s_pow, DS.s_neg, DS.s_cmp1, DS.s_cmp2, DS.s_eq, DS.s_isN, DS.s_in1, DS.s_in2, DS.s_in3, DS.s_in4, DS.s_idx1, DS.s_idx2, DS.s_idx3, DS.s_idx4, DS.s_slc1, DS.s_slc2, DS.s_slc3, DS.s_slc4, DS.s_rev, DS.s_len1, DS.s_len2, DS.s_len3, DS.s_len4, DS.s_len5, DS.s_list1, DS.s_list2, DS.s_list3, DS.s_tuple1, DS.s_tuple2, DS.s_dict1, DS.s_dict2, DS.s_max2, DS.s_min2, DS.s_abs, DS.s_isi, DS.s_sum, DS.s_join, DS.s_upper, DS.s_items, DS.s_vals, DS.s_all, DS.s_str1, DS.s_str2, DS.s_str3, DS.s_int1, DS.s_int2, DS.s_get1, DS.s_get2, DS.s_dct0, DS.s_fz1, DS.s_fz2, DS.s_fz3, DS.s_bf1, DS.s_bf2, DS.s_bf3, DS.s_tr0, DS.s_tr1, DS.s_tr2, DS.s_tr3, DS.s_tr4, DS.s_tr5, DS.s_tr6, DS.s_av0, DS.s_av1, DS.s_av2, DS.s_ag0, DS.s_ag1, DS.s_ag2, DS.s_ty1, DS.s_ty2, DS.s_ty3, DS.s_ix0, DS.s_at0, DS.ex_cons, DS.s_dep1, DS.s_dep2, DS.s_dep3, DS.s_key1, DS.s_key2, DS.s_key3, DS.s_ot0, DS.ex_one, DS.s_ot1, DS.s_sq1, DS.s_sq2, DS.s_sq3, DS.s_sq4, DS.s_rg1, DS.s_rg2, DS.s_en, DS.s_it, DS.s_vl, List.map_cons, List.map_nil, List.cons_append, List.nil_append, List.length_cons, List.length_nil, List.replicate, Nat.add_one_sub_one, Nat.reduceAdd, Nat.reduceSub, List.append_nil, List.getElem?_cons_zero, List.getElem?_cons_succ, List.set_cons_zero, List.set_cons_succ, Option.map_some, Option.some.injEq, exists_eq_left', exists_eq', exists_eq_left, DS.O.pu.injEq, DS.O.fl.injEq, DS.O.fd.injEq, DS.wipeE, DS.backE, Option.getD_some, Option.getD_none, DS.D.bl.injEq, true_and, and_true, if_true, if_false, reduceCtorEq, Bool.false_eq_true, List.nodup_nil, List.nodup_cons, List.not_mem_nil, not_false_eq_true, exists_const, DS.s_at20, DS.s_at21, DS.s_at30, DS.s_at31, DS.s_at32, DS.s_revt, DS.p_non, DS.i_int_non, DS.i_bool_non, DS.i_str_non, DS.i_tuple_non, DS.i_list_non, DS.i_dict_non, DS.i_lt_non, DS.p_bl, DS.i_int_bl, DS.i_bool_bl, DS.i_str_bl, DS.i_tuple_bl, DS.i_list_bl, DS.i_dict_bl, DS.i_lt_bl, DS.p_int, DS.i_int_int, DS.i_bool_int, DS.i_str_int, DS.i_tuple_int, DS.i_list_int, DS.i_dict_int, DS.i_lt_int, DS.p_str, DS.i_int_str, DS.i_bool_str, DS.i_str_str, DS.i_tuple_str, DS.i_list_str, DS.i_dict_str, DS.i_lt_str, DS.p_lst, DS.i_int_lst, DS.i_bool_lst, DS.i_str_lst, DS.i_tuple_lst, DS.i_list_lst, DS.i_dict_lst, DS.i_lt_lst, DS.p_tup, DS.i_int_tup, DS.i_bool_tup, DS.i_str_tup, DS.i_tuple_tup, DS.i_list_tup, DS.i_dict_tup, DS.i_lt_tup, DS.p_dct, DS.i_int_dct, DS.i_bool_dct, DS.i_str_dct, DS.i_tuple_dct, DS.i_list_dct, DS.i_dict_dct, DS.i_lt_dct, DS.ite_tt, DS.ite_ff, Bool.not_true, Bool.not_false, true_and]
      refine ⟨cmp_int, ?_⟩
      have e3 : (deq (D.int ((ys.length + 1 + 1 + 1 + 1 : Nat) : Int)) (D.int 3) == false) = true := by rw [deq_int, decide_eq_false (by omega)]; rfl
      simp only [e3, DS.wSs, DS.wS, DS.wE, DS.wEs, DS.wAs, DS.wOI, DS.wCs, DS.asK, DS.tkD, DS.avIos, DS.putOs, DS.setAll, DS.opW, DS.bindT, DS.bindTs, DS.startE, DS.mTy, DS.ex_some, DS.ex_publ, DS.ex_int, DS.ex_int2, DS.ex_tup, DS.s_add1, DS.s_add2, DS.s_add3, DS.s_add4, DS.s_sub, DS.s_mul1, DS.s_mul2, DS.s_fdiv, DS.s_mod, DS.s_pow, DS.s_neg, DS.s_cmp1, DS.s_cmp2, DS.s_eq, DS.s_isN, DS.s_in1, DS.s_in2, DS.s_in3, DS.s_in4, DS.s_idx1, DS.s_idx2, DS.s_idx3, DS.s_idx4, DS.s_slc1, DS.s_slc2, DS.s_slc3, DS.s_slc4, DS.s_rev, DS.s_len1, DS.s_len2, DS.s_len3, DS.s_len4, DS.s_len5, DS.s_list1, DS.s_list2, DS.s_list3, DS.s_tuple1, DS.s_tuple2, DS.s_dict1, DS.s_dict2, DS.s_max2, DS.s_min2, DS.s_abs, DS.s_isi, DS.s_sum, DS.s_join, DS.s_upper, DS.s_items, DS.s_vals, DS.s_all, DS.s_str1, DS.s_str2, DS.s_str3, DS.s_int1, DS.s_int2, DS.s_get1, DS.s_get2, DS.s_dct0, DS.s_fz1, DS.s_fz2, DS.s_fz3, DS.s_bf1, DS.s_bf2, DS.s_bf3, DS.s_tr0, DS.s_tr1, DS.s_tr2, DS.s_tr3, DS.s_tr4, DS.s_tr5, DS.s_tr6, DS.s_av0, DS.s_av1, DS.s_av2, DS.s_ag0, DS.s_ag1, DS.s_ag2, DS.s_ty1, DS.s_ty2, DS.s_ty3, DS.s_ix0, DS.s_at0, DS.ex_cons, DS.s_dep1, DS.s_dep2, DS.s_dep3, DS.s_key1, DS.s_key2, DS.s_key3, DS.s_ot0, DS.ex_one, DS.s_ot1, DS.s_sq1, DS.s_sq2, DS.s_sq3, DS.s_sq4, DS.s_rg1, DS.s_rg2, DS.s_en, DS.s_it, DS.s_vl, List.map_cons, List.map_nil, List.cons_append, List.nil_append, List.length_cons, List.length_nil, List.replicate, Nat.add_one_sub_one, Nat.reduceAdd, Nat.reduceSub, List.append_nil, List.getElem?_cons_zero, List.getElem?_cons_succ, List.set_cons_zero, List.set_cons_succ, Option.map_some, Option.some.injEq, exists_eq_left', exists_eq', exists_eq_left, DS.O.pu.injEq, DS.O.fl.injEq, DS.O.fd.injEq, DS.wipeE, DS.backE, Option.getD_some, Option.getD_none, DS.D.bl.injEq, true_and, and_true, if_true, if_false, reduceCtorEq, Bool.false_eq_true, List.nodup_nil, List.nodup_cons, List.not_mem_nil, not_false_eq_true, exists_const, DS.s_at20, DS.s_at21, DS.s_at30, DS.s_at31, DS.s_at32, DS.s_revt, DS.p_non, DS.i_int_non, DS.i_bool_non, DS.i_str_non, DS.i_tuple_non, DS.i_list_non, DS.i_dict_non, DS.i_lt_non, DS.p_bl, DS.i_int_bl, DS.i_bool_bl, DS.i_str_bl, DS.i_tuple_bl, DS.i_list_bl, DS.i_dict_bl, DS.i_lt_bl, DS.p_int, DS.i_int_int, DS.i_bool_int, DS.i_str_int, DS.i_tuple_int, DS.i_list_int, DS.i_dict_int, DS.i_lt_int, DS.p_str, DS.i_int_str, DS.i_bool_str, DS.i_str_str, DS.i_tuple_str, DS.i_list_str, DS.i_dict_str, DS.i_lt_str, DS.p_lst, DS.i_int_lst, DS.i_bool_lst, DS.i_str_lst, DS.i_tuple_lst, DS.i_list_lst, DS.i_dict_lst, DS.i_lt_lst, DS.p_tup, DS.i_int_tup, DS.i_bool_tup, DS.i_str_tup, DS.i_tuple_tup, DS.i_list_tup, DS.i_dict_tup, DS.i_lt_tup, DS.p_dct, DS.i_int_dct, DS.i_bool_dct, DS.i_str_dct, DS.i_tuple_dct, DS.i_list_dct, DS.i_dict_dct, DS.i_lt_dct, DS.ite_tt, DS.ite_ff, Bool.not_true, Bool.not_false, true_and]
      exact hk
  | _ => simp only [DS.wSs, DS.wS, DS.wE, DS.wEs, DS.wAs, DS.wOI, DS.wCs, DS.asK, DS.tkD, DS.avIos, DS.putOs, DS.setAll, DS.opW, DS.bindT, DS.bindTs, DS.startE, DS.mTy, DS.ex_some, DS.ex_publ, DS.ex_int, DS.ex_int2, DS.ex_tup, DS.s_add1, DS.s_add2, DS.s_add3, DS.s_add4, DS.s_sub, DS.s_mul1, DS.s_mul2, DS.s_fdiv, DS.s_mod, DS.s_pow, DS.s_neg, DS.s_cmp1, DS.s_cmp2, DS.s_eq, DS.s_isN, DS.s_in1, DS.s_in2, DS.s_in3, DS.s_in4, DS.s_idx1, DS.s_idx2, DS.s_idx3, DS.s_idx4, DS.s_slc1, DS.s_slc2, DS.s_slc3, DS.s_slc4, DS.s_rev, DS.s_len1, DS.s_len2, DS.s_len3, DS.s_len4, DS.s_len5, DS.s_list1, DS.s_list2, DS.s_list3, DS.s_tuple1, DS.s_tuple2, DS.s_dict1, DS.s_dict2, DS.s_max2, DS.s_min2, DS.s_abs, DS.s_isi, DS.s_sum, DS.s_join, DS.s_upper, DS.s_items, DS.s_vals, DS.s_all, DS.s_str1, DS.s_str2, DS.s_str3, DS.s_int1, DS.s_int2, DS.s_get1, DS.s_get2, DS.s_dct0, DS.s_fz1, DS.s_fz2, DS.s_fz3, DS.s_bf1, DS.s_bf2, DS.s_bf3, DS.s_tr0, DS.s_tr1, DS.s_tr2, DS.s_tr3, DS.s_tr4, DS.s_tr5, DS.s_tr6, DS.s_av0, DS.s_av1, DS.s_av2, DS.s_ag0, DS.s_ag1, DS.s_ag2, DS.s_ty1, DS.s_ty2, DS.s_ty3, DS.s_ix0, DS.s_at0, DS.ex_cons, DS.s_dep1, DS.s_dep2, DS.s_dep3, DS.s_key1, DS.s_key2, DS.s_key3, DS.s_ot0, DS.ex_one, DS.s_ot1, DS.s_sq1, DS.s_sq2, DS.s_sq3, DS.s_sq4, DS.s_rg1, DS.s_rg2, DS.s_en, DS.s_it, DS.s_vl, List.map_cons, List.map_nil, List.cons_append, List.nil_append, List.length_cons, List.length_nil, List.replicate, Nat.add_one_sub_one, Nat.reduceAdd, Nat.reduceSub, List.append_nil, List.getElem?_cons_zero, List.getElem?_cons_succ, List.set_cons_zero, List.set_cons_succ, Option.map_some, Option.some.injEq, exists_eq_left', exists_eq', exists_eq_left, DS.O.pu.injEq, DS.O.fl.injEq, DS.O.fd.injEq, DS.wipeE, DS.backE, Option.getD_some, Option.getD_none, DS.D.bl.injEq, true_and, and_true, if_true, if_false, reduceCtorEq, Bool.false_eq_true, List.nodup_nil, List.nodup_cons, List.not_mem_nil, not_false_eq_true, exists_const, DS.s_at20, DS.s_at21, DS.s_at30, DS.s_at31, DS.s_at32, DS.s_revt, DS.p_non, DS.i_int_non, DS.i_bool_non, DS.i_str_non, DS.i_tuple_non, DS.i_list_non, DS.i_dict_non, DS.i_lt_non, DS.p_bl, DS.i_int_bl, DS.i_bool_bl, DS.i_str_bl, DS.i_tuple_bl, DS.i_list_bl, DS.i_dict_bl, DS.i_lt_bl, DS.p_int, DS.i_int_int, DS.i_bool_int, DS.i_str_int, DS.i_tuple_int, DS.i_list_int, DS.i_dict_int, DS.i_lt_int, DS.p_str, DS.i_int_str, DS.i_bool_str, DS.i_str_str, DS.i_tuple_str, DS.i_list_str, DS.i_dict_str, DS.i_lt_str, DS.p_lst, DS.i_int_lst, DS.i_bool_lst, DS.i_str_lst, DS.i_tuple_lst, DS.i_list_lst, DS.i_dict_lst, DS.i_lt_lst, DS.p_tup, DS.i_int_tup, DS.i_bool_tup, DS.i_str_tup, DS.i_tuple_tup, DS.i_list_tup, DS.i_dict_tup, DS.i_lt_tup, DS.p_dct, DS.i_int_dct, DS.i_bool_dct, DS.i_str_dct, DS.i_tuple_dct, DS.i_list_dct, DS.i_dict_dct, DS.i_lt_dct, DS.ite_tt, DS.ite_ff, Bool.not_true, Bool.not_false, true_and]; exact hk
end DS
/-! DS25: hidden values, rows. -/
namespace DS
open PySem PySem.Spec PyProof.Rows L2
/-- a list of whole numbers in bounds -/
def IsInts (lo hi : Int) (d : D) : Prop := ∃ is : List Int, d = .lst (is.map .int) ∧ 0 < is.length ∧ is.length < 2 ^ 30 ∧ ∀ i ∈ is, lo ≤ i ∧ i ≤ hi
theorem at_of {xs : List D} {r : Int} {P : D → Prop} (Q : D → Prop) (h0 : 0 ≤ r) (h1 : r < xs.length) (h2 : xs.length < 2 ^ 30) (hP : ∀ d ∈ xs, Q d) (h : ∀ d, Q d → P d) : ∃ d, atI xs r = some d ∧ P d := by
  obtain ⟨d, a, b⟩ := atI_in h0 h1 h2
  exact ⟨d, b, h d (hP d a)⟩
/-- pick from whole numbers -/
theorem pick_ints {d : D} {lo hi : Int} (h : IsInts lo hi d) {s : List D} {n : Nat} (hs : Stt n s) (hn : n < 10 ^ 15) {K : O → List O → Prop} {R : Xp → List O → Prop} (hk : ∀ i s', lo ≤ i → i ≤ hi → Stt (n + 1) s' → K (.pu (.int i)) [.fl s']) : fsPick [.fl s, .pu d] K R := by
  obtain ⟨is, rfl, h0, h1, h2⟩ := h
  refine ⟨s, n, _, _, rfl, rfl, by simpa using h0, by simpa using h1, hs, hn, fun x s' hx hs' => ?_⟩
  obtain ⟨i, hi, rfl⟩ := List.mem_map.1 hx
  exact hk i s' (h2 i hi).1 (h2 i hi).2 hs'
def fHidden (d p : Nat) : Fn := ⟨6, 2, [0], [.set 2 (.call d [.io 0, .con (.int 4)]),
    .set 3 (.op .dct []),
    .fo .seq [.var 1] (.n 4) [.set 5 (.op .idx [.op .lst [.op .lst [.con (.int 0), .con (.int 1), .con (.int 2), .con (.int 3), .con (.int 4), .con (.int 5), .con (.int 6), .con (.int 7)], .op .lst [.con (.int 0), .con (.int 1), .con (.int 10), .con (.int 100)], .op .lst [.con (.int 0), .op .pow [.con (.int 10), .con (.int 9)], .op .sub [.op .pow [.con (.int 10), .con (.int 9)], .con (.int 1)]], .op .lst [.con (.int 5), .con (.int 5), .con (.int 6)]], .io 2]),
    .sti 3 (.var 4) (.call p [.io 0, .var 5])],
    .ret (.mov 3)]⟩
def fsHidden : FS := fun args K R => ∃ (s : List D) (n : Nat) (xs : List Str), args = [.fl s, .pu (.lst (xs.map .str))] ∧ xs.length ≤ 20 ∧ Stt n s ∧ n < 10 ^ 14 ∧ ∀ (vs : List (Str × Int)) s', (vs.map (·.1)).Nodup → (∀ x ∈ xs, x ∈ vs.map (·.1)) → vs.length ≤ 20 → (∀ p ∈ vs, 0 ≤ p.2 ∧ p.2 ≤ 10 ^ 9) → Stt (n + 100) s' → K (.fd (encI vs)) [.fl s']
theorem ok_hidden {Γ : Gam} {d p : Nat} (hd : Γ d = fsDraw) (hp : Γ p = fsPick) : Fn.Ok Γ (fHidden d p) fsHidden := by
  rintro args K R ⟨s, n, xs, rfl, hx, hs, hn, hk⟩
  refine ⟨rfl, ?_⟩
  unfold fHidden
  simp only [DS.wSs, DS.wS, DS.wE, DS.wEs, DS.wAs, DS.wOI, DS.wCs, DS.asK, DS.tkD, DS.avIos, DS.putOs, DS.setAll, DS.opW, DS.bindT, DS.bindTs, DS.startE, DS.mTy, DS.ex_some, DS.ex_publ, DS.ex_int, DS.ex_int2, DS.ex_tup, DS.s_add1, DS.s_add2, DS.s_add3, DS.s_add4, DS.s_sub, DS.s_mul1, DS.s_mul2, DS.s_fdiv, DS.s_mod, DS.s_pow, DS.s_neg, DS.s_cmp1, DS.s_cmp2, DS.s_eq, DS.s_isN, DS.s_in1, DS.s_in2, DS.s_in3, DS.s_in4, DS.s_idx1, DS.s_idx2, DS.s_idx3, DS.s_idx4, DS.s_slc1, DS.s_slc2, DS.s_slc3, DS.s_slc4, DS.s_rev, DS.s_len1, DS.s_len2, DS.s_len3, DS.s_len4, DS.s_len5, DS.s_list1, DS.s_list2, DS.s_list3, DS.s_tuple1, DS.s_tuple2, DS.s_dict1, DS.s_dict2, DS.s_max2, DS.s_min2, DS.s_abs, DS.s_isi, DS.s_sum, DS.s_join, DS.s_upper, DS.s_items, DS.s_vals, DS.s_all, DS.s_str1, DS.s_str2, DS.s_str3, DS.s_int1, DS.s_int2, DS.s_get1, DS.s_get2, DS.s_dct0, DS.s_fz1, DS.s_fz2, DS.s_fz3, DS.s_bf1, DS.s_bf2, DS.s_bf3, DS.s_tr0, DS.s_tr1, DS.s_tr2, DS.s_tr3, DS.s_tr4, DS.s_tr5, DS.s_tr6, DS.s_av0, DS.s_av1, DS.s_av2, DS.s_ag0, DS.s_ag1, DS.s_ag2, DS.s_ty1, DS.s_ty2, DS.s_ty3, DS.s_ix0, DS.s_at0, DS.ex_cons, DS.s_dep1, DS.s_dep2, DS.s_dep3, DS.s_key1, DS.s_key2, DS.s_key3, DS.s_ot0, DS.ex_one, DS.s_ot1, DS.s_sq1, DS.s_sq2, DS.s_sq3, DS.s_sq4, DS.s_rg1, DS.s_rg2, DS.s_en, DS.s_it, DS.s_vl, List.map_cons, List.map_nil, List.cons_append, List.nil_append, List.length_cons, List.length_nil, List.replicate, Nat.add_one_sub_one, Nat.reduceAdd, Nat.reduceSub, List.append_nil, List.getElem?_cons_zero, List.getElem?_cons_succ, List.set_cons_zero, List.set_cons_succ, Option.map_some, Option.some.injEq, exists_eq_left', exists_eq', exists_eq_left, DS.O.pu.injEq, DS.O.fl.injEq, DS.O.fd.injEq, DS.wipeE, DS.backE, Option.getD_some, Option.getD_none, DS.D.bl.injEq, true_and, and_true, if_true, if_false, reduceCtorEq, Bool.false_eq_true, List.nodup_nil, List.nodup_cons, List.not_mem_nil, not_false_eq_true, exists_const, DS.s_at20, DS.s_at21, DS.s_at30, DS.s_at31, DS.s_at32, DS.s_revt, hd]
  refine ⟨s, n, 4, rfl, hs, by omega, by decide, by decide, fun r s1 r0 r1 h1 => ⟨rfl, ?_⟩⟩
  simp only [DS.wSs, DS.wS, DS.wE, DS.wEs, DS.wAs, DS.wOI, DS.wCs, DS.asK, DS.tkD, DS.avIos, DS.putOs, DS.setAll, DS.opW, DS.bindT, DS.bindTs, DS.startE, DS.mTy, DS.ex_some, DS.ex_publ, DS.ex_int, DS.ex_int2, DS.ex_tup, DS.s_add1, DS.s_add2, DS.s_add3, DS.s_add4, DS.s_sub, DS.s_mul1, DS.s_mul2, DS.s_fdiv, DS.s_mod, DS.s_pow, DS.s_neg, DS.s_cmp1, DS.s_cmp2, DS.s_eq, DS.s_isN, DS.s_in1, DS.s_in2, DS.s_in3, DS.s_in4, DS.s_idx1, DS.s_idx2, DS.s_idx3, DS.s_idx4, DS.s_slc1, DS.s_slc2, DS.s_slc3, DS.s_slc4, DS.s_rev, DS.s_len1, DS.s_len2, DS.s_len3, DS.s_len4, DS.s_len5, DS.s_list1, DS.s_list2, DS.s_list3, DS.s_tuple1, DS.s_tuple2, DS.s_dict1, DS.s_dict2, DS.s_max2, DS.s_min2, DS.s_abs, DS.s_isi, DS.s_sum, DS.s_join, DS.s_upper, DS.s_items, DS.s_vals, DS.s_all, DS.s_str1, DS.s_str2, DS.s_str3, DS.s_int1, DS.s_int2, DS.s_get1, DS.s_get2, DS.s_dct0, DS.s_fz1, DS.s_fz2, DS.s_fz3, DS.s_bf1, DS.s_bf2, DS.s_bf3, DS.s_tr0, DS.s_tr1, DS.s_tr2, DS.s_tr3, DS.s_tr4, DS.s_tr5, DS.s_tr6, DS.s_av0, DS.s_av1, DS.s_av2, DS.s_ag0, DS.s_ag1, DS.s_ag2, DS.s_ty1, DS.s_ty2, DS.s_ty3, DS.s_ix0, DS.s_at0, DS.ex_cons, DS.s_dep1, DS.s_dep2, DS.s_dep3, DS.s_key1, DS.s_key2, DS.s_key3, DS.s_ot0, DS.ex_one, DS.s_ot1, DS.s_sq1, DS.s_sq2, DS.s_sq3, DS.s_sq4, DS.s_rg1, DS.s_rg2, DS.s_en, DS.s_it, DS.s_vl, List.map_cons, List.map_nil, List.cons_append, List.nil_append, List.length_cons, List.length_nil, List.replicate, Nat.add_one_sub_one, Nat.reduceAdd, Nat.reduceSub, List.append_nil, List.getElem?_cons_zero, List.getElem?_cons_succ, List.set_cons_zero, List.set_cons_succ, Option.map_some, Option.some.injEq, exists_eq_left', exists_eq', exists_eq_left, DS.O.pu.injEq, DS.O.fl.injEq, DS.O.fd.injEq, DS.wipeE, DS.backE, Option.getD_some, Option.getD_none, DS.D.bl.injEq, true_and, and_true, if_true, if_false, reduceCtorEq, Bool.false_eq_true, List.nodup_nil, List.nodup_cons, List.not_mem_nil, not_false_eq_true, exists_const, DS.s_at20, DS.s_at21, DS.s_at30, DS.s_at31, DS.s_at32, DS.s_revt]
  refine loopW_of (fun items e => ∃ (todo done : List Str) (vs : List (Str × Int)) (s2 : List D) (m : Nat) (o1 : O) (x4 x5 : Option O), items = todo.map .str ∧ xs = done ++ todo ∧ e = [some (.fl s2), some o1, some (.pu (.int r)), some (.fd (encI vs)), x4, x5] ∧ Stt m s2 ∧ m ≤ n + 1 + done.length ∧ (vs.map (·.1)).Nodup ∧ vs.length ≤ done.length ∧ (∀ x ∈ done, x ∈ vs.map (·.1)) ∧ ∀ p ∈ vs, 0 ≤ p.2 ∧ p.2 ≤ 10 ^ 9) ?_ ?_ _ _ ?_
  · rintro e ⟨todo, done, vs, s2, m, o1, x4, x5, h1', rfl, rfl, h2, h3, h4, h5, h6, h7⟩
    have ht : todo = [] := by simpa using h1'.symm
    subst ht
    simp only [DS.wSs, DS.wS, DS.wE, DS.wEs, DS.wAs, DS.wOI, DS.wCs, DS.asK, DS.tkD, DS.avIos, DS.putOs, DS.setAll, DS.opW, DS.bindT, DS.bindTs, DS.startE, DS.mTy, DS.ex_some, DS.ex_publ, DS.ex_int, DS.ex_int2, DS.ex_tup, DS.s_add1, DS.s_add2, DS.s_add3, DS.s_add4, DS.s_sub, DS.s_mul1, DS.s_mul2, DS.s_fdiv, DS.s_mod, DS.s_pow, DS.s_neg, DS.s_cmp1, DS.s_cmp2, DS.s_eq, DS.s_isN, DS.s_in1, DS.s_in2, DS.s_in3, DS.s_in4, DS.s_idx1, DS.s_idx2, DS.s_idx3, DS.s_idx4, DS.s_slc1, DS.s_slc2, DS.s_slc3, DS.s_slc4, DS.s_rev, DS.s_len1, DS.s_len2, DS.s_len3, DS.s_len4, DS.s_len5, DS.s_list1, DS.s_list2, DS.s_list3, DS.s_tuple1, DS.s_tuple2, DS.s_dict1, DS.s_dict2, DS.s_max2, DS.s_min2, DS.s_abs, DS.s_isi, DS.s_sum, DS.s_join, DS.s_upper, DS.s_items, DS.s_vals, DS.s_all, DS.s_str1, DS.s_str2, DS.s_str3, DS.s_int1, DS.s_int2, DS.s_get1, DS.s_get2, DS.s_dct0, DS.s_fz1, DS.s_fz2, DS.s_fz3, DS.s_bf1, DS.s_bf2, DS.s_bf3, DS.s_tr0, DS.s_tr1, DS.s_tr2, DS.s_tr3, DS.s_tr4, DS.s_tr5, DS.s_tr6, DS.s_av0, DS.s_av1, DS.s_av2, DS.s_ag0, DS.s_ag1, DS.s_ag2, DS.s_ty1, DS.s_ty2, DS.s_ty3, DS.s_ix0, DS.s_at0, DS.ex_cons, DS.s_dep1, DS.s_dep2, DS.s_dep3, DS.s_key1, DS.s_key2, DS.s_key3, DS.s_ot0, DS.ex_one, DS.s_ot1, DS.s_sq1, DS.s_sq2, DS.s_sq3, DS.s_sq4, DS.s_rg1, DS.s_rg2, DS.s_en, DS.s_it, DS.s_vl, List.map_cons, List.map_nil, List.cons_append, List.nil_append, List.length_cons, List.length_nil, List.replicate, Nat.add_one_sub_one, Nat.reduceAdd, Nat.reduceSub, List.append_nil, List.getElem?_cons_zero, List.getElem?_cons_succ, List.set_cons_zero, List.set_cons_succ, Option.map_some, Option.some.injEq, exists_eq_left', exists_eq', exists_eq_left, DS.O.pu.injEq, DS.O.fl.injEq, DS.O.fd.injEq, DS.wipeE, DS.backE, Option.getD_some, Option.getD_none, DS.D.bl.injEq, true_and, and_true, if_true, if_false, reduceCtorEq, Bool.false_eq_true, List.nodup_nil, List.nodup_cons, List.not_mem_nil, not_false_eq_true, exists_const, DS.s_at20, DS.s_at21, DS.s_at30, DS.s_at31, DS.s_at32, DS.s_revt]
    exact hk vs s2 h4 (by simpa using h6) (by simp at hx; omega) h7 (h2.mono (by simp at hx; omega))
  · rintro d0 ds e L ⟨todo, done, vs, s2, m, o1, x4, x5, h1', rfl, rfl, h2, h3, h4, h5, h6, h7⟩ hL
    cases todo with
    | nil => simp at h1'
    | cons x todo =>
      simp only [List.map_cons, List.cons.injEq] at h1'
      obtain ⟨rfl, rfl⟩ := h1'
      simp only [DS.wSs, DS.wS, DS.wE, DS.wEs, DS.wAs, DS.wOI, DS.wCs, DS.asK, DS.tkD, DS.avIos, DS.putOs, DS.setAll, DS.opW, DS.bindT, DS.bindTs, DS.startE, DS.mTy, DS.ex_some, DS.ex_publ, DS.ex_int, DS.ex_int2, DS.ex_tup, DS.s_add1, DS.s_add2, DS.s_add3, DS.s_add4, DS.s_sub, DS.s_mul1, DS.s_mul2, DS.s_fdiv, DS.s_mod, DS.s_pow, DS.s_neg, DS.s_cmp1, DS.s_cmp2, DS.s_eq, DS.s_isN, DS.s_in1, DS.s_in2, DS.s_in3, DS.s_in4, DS.s_idx1, DS.s_idx2, DS.s_idx3, DS.s_idx4, DS.s_slc1, DS.s_slc2, DS.s_slc3, DS.s_slc4, DS.s_rev, DS.s_len1, DS.s_len2, DS.s_len3, DS.s_len4, DS.s_len5, DS.s_list1, DS.s_list2, DS.s_list3, DS.s_tuple1, DS.s_tuple2, DS.s_dict1, DS.s_dict2, DS.s_max2, DS.s_min2, DS.s_abs, DS.s_isi, DS.s_sum, DS.s_join, DS.s_upper, DS.s_items, DS.s_vals, DS.s_all, DS.s_str1, DS.s_str2, DS.s_str3, DS.s_int1, DS.s_int2, DS.s_get1, DS.s_get2, DS.s_dct0, DS.s_fz1, DS.s_fz2, DS.s_fz3, DS.s_bf1, DS.s_bf2, DS.s_bf3, DS.s_tr0, DS.s_tr1, DS.s_tr2, DS.s_tr3, DS.s_tr4, DS.s_tr5, DS.s_tr6, DS.s_av0, DS.s_av1, DS.s_av2, DS.s_ag0, DS.s_ag1, DS.s_ag2, DS.s_ty1, DS.s_ty2, DS.s_ty3, DS.s_ix0, DS.s_at0, DS.ex_cons, DS.s_dep1, DS.s_dep2, DS.s_dep3, DS.s_key1, DS.s_key2, DS.s_key3, DS.s_ot0, DS.ex_one, DS.s_ot1, DS.s_sq1, DS.s_sq2, DS.s_sq3, DS.s_sq4, DS.s_rg1, DS.s_rg2, DS.s_en, DS.s_it, DS.s_vl, List.map_cons, List.map_nil, List.cons_append, List.nil_append, List.length_cons, List.length_nil, List.replicate, Nat.add_one_sub_one, Nat.reduceAdd, Nat.reduceSub, List.append_nil, List.getElem?_cons_zero, List.getElem?_cons_succ, List.set_cons_zero, List.set_cons_succ, Option.map_some, Option.some.injEq, exists_eq_left', exists_eq', exists_eq_left, DS.O.pu.injEq, DS.O.fl.injEq, DS.O.fd.injEq, DS.wipeE, DS.backE, Option.getD_some, Option.getD_none, DS.D.bl.injEq, true_and, and_true, if_true, if_false, reduceCtorEq, Bool.false_eq_true, List.nodup_nil, List.nodup_cons, List.not_mem_nil, not_false_eq_true, exists_const, DS.s_at20, DS.s_at21, DS.s_at30, DS.s_at31, DS.s_at32, DS.s_revt, hp]
      have hz := sizeLine_eq
      refine ⟨by omega, by omega, ⟨by decide, by decide⟩, ⟨by decide, by decide⟩, by omega, by omega, by omega, ?_⟩
      refine at_of (IsInts 0 (10 ^ 9)) r0 (by simpa using r1) (by simp) ?_ fun d2 hd2 => ?_
      · refine List.forall_mem_cons.2 ⟨⟨[0, 1, 2, 3, 4, 5, 6, 7], rfl, by simp, by simp, by decide⟩, List.forall_mem_cons.2 ⟨⟨[0, 1, 10, 100], rfl, by simp, by simp, by decide⟩, List.forall_mem_cons.2 ⟨⟨[0, 10 ^ 9, 10 ^ 9 - 1], rfl, by simp, by simp, by decide⟩, List.forall_mem_cons.2 ⟨⟨[5, 5, 6], rfl, by simp, by simp, by decide⟩, fun _ h => by cases h⟩⟩⟩⟩
      refine pick_ints hd2 h2 (by simp at hx; omega) fun i s3 hi1 hi2 h3s => ?_
      simp only [DS.wSs, DS.wS, DS.wE, DS.wEs, DS.wAs, DS.wOI, DS.wCs, DS.asK, DS.tkD, DS.avIos, DS.putOs, DS.setAll, DS.opW, DS.bindT, DS.bindTs, DS.startE, DS.mTy, DS.ex_some, DS.ex_publ, DS.ex_int, DS.ex_int2, DS.ex_tup, DS.s_add1, DS.s_add2, DS.s_add3, DS.s_add4, DS.s_sub, DS.s_mul1, DS.s_mul2, DS.s_fdiv, DS.s_mod, DS.s_pow, DS.s_neg, DS.s_cmp1, DS.s_cmp2, DS.s_eq, DS.s_isN, DS.s_in1, DS.s_in2, DS.s_in3, DS.s_in4, DS.s_idx1, DS.s_idx2, DS.s_idx3, DS.s_idx4, DS.s_slc1, DS.s_slc2, DS.s_slc3, DS.s_slc4, DS.s_rev, DS.s_len1, DS.s_len2, DS.s_len3, DS.s_len4, DS.s_len5, DS.s_list1, DS.s_list2, DS.s_list3, DS.s_tuple1, DS.s_tuple2, DS.s_dict1, DS.s_dict2, DS.s_max2, DS.s_min2, DS.s_abs, DS.s_isi, DS.s_sum, DS.s_join, DS.s_upper, DS.s_items, DS.s_vals, DS.s_all, DS.s_str1, DS.s_str2, DS.s_str3, DS.s_int1, DS.s_int2, DS.s_get1, DS.s_get2, DS.s_dct0, DS.s_fz1, DS.s_fz2, DS.s_fz3, DS.s_bf1, DS.s_bf2, DS.s_bf3, DS.s_tr0, DS.s_tr1, DS.s_tr2, DS.s_tr3, DS.s_tr4, DS.s_tr5, DS.s_tr6, DS.s_av0, DS.s_av1, DS.s_av2, DS.s_ag0, DS.s_ag1, DS.s_ag2, DS.s_ty1, DS.s_ty2, DS.s_ty3, DS.s_ix0, DS.s_at0, DS.ex_cons, DS.s_dep1, DS.s_dep2, DS.s_dep3, DS.s_key1, DS.s_key2, DS.s_key3, DS.s_ot0, DS.ex_one, DS.s_ot1, DS.s_sq1, DS.s_sq2, DS.s_sq3, DS.s_sq4, DS.s_rg1, DS.s_rg2, DS.s_en, DS.s_it, DS.s_vl, List.map_cons, List.map_nil, List.cons_append, List.nil_append, List.length_cons, List.length_nil, List.replicate, Nat.add_one_sub_one, Nat.reduceAdd, Nat.reduceSub, List.append_nil, List.getElem?_cons_zero, List.getElem?_cons_succ, List.set_cons_zero, List.set_cons_succ, Option.map_some, Option.some.injEq, exists_eq_left', exists_eq', exists_eq_left, DS.O.pu.injEq, DS.O.fl.injEq, DS.O.fd.injEq, DS.wipeE, DS.backE, Option.getD_some, Option.getD_none, DS.D.bl.injEq, true_and, and_true, if_true, if_false, reduceCtorEq, Bool.false_eq_true, List.nodup_nil, List.nodup_cons, List.not_mem_nil, not_false_eq_true, exists_const, DS.s_at20, DS.s_at21, DS.s_at30, DS.s_at31, DS.s_at32, DS.s_revt]
      have hxl : done.length < 20 := by simp at hx; omega
      have he : dput (encI vs) (.str x) (.text x) (.int i) = encI (sput vs x i) := dput_enc
      rw [he]
      refine ⟨by simp [encI, enc_len]; omega, hL _ ⟨todo, done ++ [x], sput vs x i, s3, m + 1, _, _, _, rfl, by simp, rfl, h3s, by simp; omega, sput_nd h4, by have := sput_len (l := vs) (x := x) (v := i); simp; omega, ?_, ?_⟩⟩
      · intro z hz
        rcases List.mem_append.1 hz with hz | hz
        · exact sput_in (.inr (h6 z hz))
        · exact sput_in (.inl (by simpa using hz))
      · intro p hp
        rcases sput_mem hp with rfl | hp
        · exact ⟨hi1, hi2⟩
        · exact h7 p hp
  · exact ⟨xs, [], [], _, _, _, _, _, rfl, rfl, rfl, h1, by simp, by simp, by simp, (fun x hx => by cases hx), fun p hp => by cases hp⟩
/-! terms -/
def tD : Option Str → D
  | none => .non
  | some z => .str z
def TermOf (xs : List Str) (t : Option Str) : Prop := ∀ z, t = some z → z ∈ xs
def tv (vs : List (Str × Int)) : Option Str → Int
  | none => 0
  | some z => (sget vs z).getD 0
theorem deq_tD {a b : Option Str} : deq (tD a) (tD b) = decide (a = b) := by
  cases a <;> cases b <;> simp [tD, deq]
theorem cmp_tD {a b : Option Str} : cmpOk (tD a) (tD b) := by
  cases a <;> cases b <;> exact ⟨rfl, by simp [tD, depD]⟩
def fAt : Fn := ⟨2, 2, [], [.ret (.ife (.op .isN [.io 1]) (.con (.int 0)) (.op .idx [.io 0, .io 1]))]⟩
def fsAt : FS := fun args K R => ∃ (vs : List (Str × Int)) (t : Option Str), args = [.pu (.dct (encI vs)), .pu (tD t)] ∧ (∀ z, t = some z → z ∈ vs.map (·.1)) ∧ K (.pu (.int (tv vs t))) []
theorem ok_at {Γ : Gam} : Fn.Ok Γ fAt fsAt := by
  rintro args K R ⟨vs, t, rfl, ht, hk⟩
  refine ⟨rfl, ?_⟩
  unfold fAt
  cases t with
  | none =>
    have e : isNon .non = true := rfl
    simp only [DS.wSs, DS.wS, DS.wE, DS.wEs, DS.wAs, DS.wOI, DS.wCs, DS.asK, DS.tkD, DS.avIos, DS.putOs, DS.setAll, DS.opW, DS.bindT, DS.bindTs, DS.startE, DS.mTy, DS.ex_some, DS.ex_publ, DS.ex_int, DS.ex_int2, DS.ex_tup, DS.s_add1, DS.s_add2, DS.s_add3, DS.s_add4, DS.s_sub, DS.s_mul1, DS.s_mul2, DS.s_fdiv, DS.s_mod, DS.s_pow, DS.s_neg, DS.s_cmp1, DS.s_cmp2, DS.s_eq, DS.s_isN, DS.s_in1, DS.s_in2, DS.s_in3, DS.s_in4, DS.s_idx1, DS.s_idx2, DS.s_idx3, DS.s_idx4, DS.s_slc1, DS.s_slc2, DS.s_slc3, DS.s_slc4, DS.s_rev, DS.s_len1, DS.s_len2, DS.s_len3, DS.s_len4, DS.s_len5, DS.s_list1, DS.s_list2, DS.s_list3, DS.s_tuple1, DS.s_tuple2, DS.s_dict1, DS.s_dict2, DS.s_max2, DS.s_min2, DS.s_abs, DS.s_isi, DS.s_sum, DS.s_join, DS.s_upper, DS.s_items, DS.s_vals, DS.s_all, DS.s_str1, DS.s_str2, DS.s_str3, DS.s_int1, DS.s_int2, DS.s_get1, DS.s_get2, DS.s_dct0, DS.s_fz1, DS.s_fz2, DS.s_fz3, DS.s_bf1, DS.s_bf2, DS.s_bf3, DS.s_tr0, DS.s_tr1, DS.s_tr2, DS.s_tr3, DS.s_tr4, DS.s_tr5, DS.s_tr6, DS.s_av0, DS.s_av1, DS.s_av2, DS.s_ag0, DS.s_ag1, DS.s_ag2, DS.s_ty1, DS.s_ty2, DS.s_ty3, DS.s_ix0, DS.s_at0, DS.ex_cons, DS.s_dep1, DS.s_dep2, DS.s_dep3, DS.s_key1, DS.s_key2, DS.s_key3, DS.s_ot0, DS.ex_one, DS.s_ot1, DS.s_sq1, DS.s_sq2, DS.s_sq3, DS.s_sq4, DS.s_rg1, DS.s_rg2, DS.s_en, DS.s_it, DS.s_vl, List.map_cons, List.map_nil, List.cons_append, List.nil_append, List.length_cons, List.length_nil, List.replicate, Nat.add_one_sub_one, Nat.reduceAdd, Nat.reduceSub, List.append_nil, List.getElem?_cons_zero, List.getElem?_cons_succ, List.set_cons_zero, List.set_cons_succ, Option.map_some, Option.some.injEq, exists_eq_left', exists_eq', exists_eq_left, DS.O.pu.injEq, DS.O.fl.injEq, DS.O.fd.injEq, DS.wipeE, DS.backE, Option.getD_some, Option.getD_none, DS.D.bl.injEq, true_and, and_true, if_true, if_false, reduceCtorEq, Bool.false_eq_true, List.nodup_nil, List.nodup_cons, List.not_mem_nil, not_false_eq_true, exists_const, DS.s_at20, DS.s_at21, DS.s_at30, DS.s_at31, DS.s_at32, DS.s_revt, DS.p_non, DS.i_int_non, DS.i_bool_non, DS.i_str_non, DS.i_tuple_non, DS.i_list_non, DS.i_dict_non, DS.i_lt_non, DS.p_bl, DS.i_int_bl, DS.i_bool_bl, DS.i_str_bl, DS.i_tuple_bl, DS.i_list_bl, DS.i_dict_bl, DS.i_lt_bl, DS.p_int, DS.i_int_int, DS.i_bool_int, DS.i_str_int, DS.i_tuple_int, DS.i_list_int, DS.i_dict_int, DS.i_lt_int, DS.p_str, DS.i_int_str, DS.i_bool_str, DS.i_str_str, DS.i_tuple_str, DS.i_list_str, DS.i_dict_str, DS.i_lt_str, DS.p_lst, DS.i_int_lst, DS.i_bool_lst, DS.i_str_lst, DS.i_tuple_lst, DS.i_list_lst, DS.i_dict_lst, DS.i_lt_lst, DS.p_tup, DS.i_int_tup, DS.i_bool_tup, DS.i_str_tup, DS.i_tuple_tup, DS.i_list_tup, DS.i_dict_tup, DS.i_lt_tup, DS.p_dct, DS.i_int_dct, DS.i_bool_dct, DS.i_str_dct, DS.i_tuple_dct, DS.i_list_dct, DS.i_dict_dct, DS.i_lt_dct, DS.ite_tt, DS.ite_ff, Bool.not_true, Bool.not_false, true_and, tD, e, tt]
    exact ⟨rfl, hk⟩
  | some z =>
    obtain ⟨v, h1, h2⟩ := sget_key (ht z rfl)
    have e : isNon (.str z) = false := rfl
    simp only [DS.wSs, DS.wS, DS.wE, DS.wEs, DS.wAs, DS.wOI, DS.wCs, DS.asK, DS.tkD, DS.avIos, DS.putOs, DS.setAll, DS.opW, DS.bindT, DS.bindTs, DS.startE, DS.mTy, DS.ex_some, DS.ex_publ, DS.ex_int, DS.ex_int2, DS.ex_tup, DS.s_add1, DS.s_add2, DS.s_add3, DS.s_add4, DS.s_sub, DS.s_mul1, DS.s_mul2, DS.s_fdiv, DS.s_mod, DS.s_pow, DS.s_neg, DS.s_cmp1, DS.s_cmp2, DS.s_eq, DS.s_isN, DS.s_in1, DS.s_in2, DS.s_in3, DS.s_in4, DS.s_idx1, DS.s_idx2, DS.s_idx3, DS.s_idx4, DS.s_slc1, DS.s_slc2, DS.s_slc3, DS.s_slc4, DS.s_rev, DS.s_len1, DS.s_len2, DS.s_len3, DS.s_len4, DS.s_len5, DS.s_list1, DS.s_list2, DS.s_list3, DS.s_tuple1, DS.s_tuple2, DS.s_dict1, DS.s_dict2, DS.s_max2, DS.s_min2, DS.s_abs, DS.s_isi, DS.s_sum, DS.s_join, DS.s_upper, DS.s_items, DS.s_vals, DS.s_all, DS.s_str1, DS.s_str2, DS.s_str3, DS.s_int1, DS.s_int2, DS.s_get1, DS.s_get2, DS.s_dct0, DS.s_fz1, DS.s_fz2, DS.s_fz3, DS.s_bf1, DS.s_bf2, DS.s_bf3, DS.s_tr0, DS.s_tr1, DS.s_tr2, DS.s_tr3, DS.s_tr4, DS.s_tr5, DS.s_tr6, DS.s_av0, DS.s_av1, DS.s_av2, DS.s_ag0, DS.s_ag1, DS.s_ag2, DS.s_ty1, DS.s_ty2, DS.s_ty3, DS.s_ix0, DS.s_at0, DS.ex_cons, DS.s_dep1, DS.s_dep2, DS.s_dep3, DS.s_key1, DS.s_key2, DS.s_key3, DS.s_ot0, DS.ex_one, DS.s_ot1, DS.s_sq1, DS.s_sq2, DS.s_sq3, DS.s_sq4, DS.s_rg1, DS.s_rg2, DS.s_en, DS.s_it, DS.s_vl, List.map_cons, List.map_nil, List.cons_append, List.nil_append, List.length_cons, List.length_nil, List.replicate, Nat.add_one_sub_one, Nat.reduceAdd, Nat.reduceSub, List.append_nil, List.getElem?_cons_zero, List.getElem?_cons_succ, List.set_cons_zero, List.set_cons_succ, Option.map_some, Option.some.injEq, exists_eq_left', exists_eq', exists_eq_left, DS.O.pu.injEq, DS.O.fl.injEq, DS.O.fd.injEq, DS.wipeE, DS.backE, Option.getD_some, Option.getD_none, DS.D.bl.injEq, true_and, and_true, if_true, if_false, reduceCtorEq, Bool.false_eq_true, List.nodup_nil, List.nodup_cons, List.not_mem_nil, not_false_eq_true, exists_const, DS.s_at20, DS.s_at21, DS.s_at30, DS.s_at31, DS.s_at32, DS.s_revt, DS.p_non, DS.i_int_non, DS.i_bool_non, DS.i_str_non, DS.i_tuple_non, DS.i_list_non, DS.i_dict_non, DS.i_lt_non, DS.p_bl, DS.i_int_bl, DS.i_bool_bl, DS.i_str_bl, DS.i_tuple_bl, DS.i_list_bl, DS.i_dict_bl, DS.i_lt_bl, DS.p_int, DS.i_int_int, DS.i_bool_int, DS.i_str_int, DS.i_tuple_int, DS.i_list_int, DS.i_dict_int, DS.i_lt_int, DS.p_str, DS.i_int_str, DS.i_bool_str, DS.i_str_str, DS.i_tuple_str, DS.i_list_str, DS.i_dict_str, DS.i_lt_str, DS.p_lst, DS.i_int_lst, DS.i_bool_lst, DS.i_str_lst, DS.i_tuple_lst, DS.i_list_lst, DS.i_dict_lst, DS.i_lt_lst, DS.p_tup, DS.i_int_tup, DS.i_bool_tup, DS.i_str_tup, DS.i_tuple_tup, DS.i_list_tup, DS.i_dict_tup, DS.i_lt_tup, DS.p_dct, DS.i_int_dct, DS.i_bool_dct, DS.i_str_dct, DS.i_tuple_dct, DS.i_list_dct, DS.i_dict_dct, DS.i_lt_dct, DS.ite_tt, DS.ite_ff, Bool.not_true, Bool.not_false, true_and, tD, e, ft, dget_enc, h1]
    refine ⟨rfl, ?_⟩
    simp only [tv, h1] at hk
    exact hk
theorem filt_loop {g : D → Ev → (Option D → Ev → Prop) → Prop} {E0 : Ev → Prop} {K : List D → Ev → Prop} {f : Option Str} (hstep : ∀ a e L, E0 e → (∀ e1, E0 e1 → if a = f then L none e1 else L (some (tD a)) e1) → g (tD a) e L) :
    ∀ (l acc : List (Option Str)) e, E0 e → acc.length + l.length ≤ sizeLine → (∀ e1, E0 e1 → K ((acc ++ l.filter (fun a => decide (a ≠ f))).map tD) e1) → compW g (l.map tD) (acc.map tD) e K
  | [], acc, e, he, hl, hk => by
    have := hk e he
    simpa [compW] using this
  | a :: l, acc, e, he, hl, hk => by
    simp only [List.map_cons]
    unfold compW
    simp only [List.length_cons] at hl
    refine hstep a e _ he fun e1 he1 => ?_
    by_cases h : a = f
    · rw [if_pos h]
      exact filt_loop hstep l acc e1 he1 (by omega) fun e2 he2 => by
        have := hk e2 he2
        simpa [h] using this
    · rw [if_neg h]
      refine ⟨by simp; omega, ?_⟩
      have := filt_loop hstep l (acc ++ [a]) e1 he1 (by simp; omega) fun e2 he2 => by
        have := hk e2 he2
        simpa [h] using this
      simpa using this
theorem terms_map {xs : List Str} : D.non :: xs.map .str = (none :: xs.map some).map tD := by
  simp only [List.map_cons, List.map_map]
  rfl
theorem pick_terms {ts : List (Option Str)} (h0 : 0 < ts.length) (h1 : ts.length < 2 ^ 30) {s : List D} {n : Nat} (hs : Stt n s) (hn : n < 10 ^ 15) {K : O → List O → Prop} {R : Xp → List O → Prop} (hk : ∀ t s', t ∈ ts → Stt (n + 1) s' → K (.pu (tD t)) [.fl s']) : fsPick [.fl s, .pu (.lst (ts.map tD))] K R := by
  refine ⟨s, n, _, _, rfl, rfl, by simpa using h0, by simpa using h1, hs, hn, fun x s' hx hs' => ?_⟩
  obtain ⟨t, ht, rfl⟩ := List.mem_map.1 hx
  exact hk t s' ht hs'
theorem mem_terms {xs : List Str} {t : Option Str} (h : t ∈ none :: xs.map some) : TermOf xs t := by
  intro z hz
  subst hz
  simpa using h
theorem tv_bound {vs : List (Str × Int)} {xs : List Str} {t : Option Str} (hxv : ∀ x ∈ xs, x ∈ vs.map (·.1)) (hv : ∀ p ∈ vs, 0 ≤ p.2 ∧ p.2 ≤ 10 ^ 9) (h : TermOf xs t) : 0 ≤ tv vs t ∧ tv vs t ≤ 10 ^ 9 := by
  cases t with
  | none => simp [tv]
  | some z =>
    obtain ⟨v, h1, h2⟩ := sget_key (hxv z (h z rfl))
    simp only [tv, h1, Option.getD_some]
    exact hv _ h2
def fRow (d p a : Nat) : Fn := ⟨9, 3, [0], [.set 3 (.op .add [.op .lst [.con .non], .io 1]),
    .set 4 (.call p [.io 0, .var 3]),
    .set 5 (.call p [.io 0, .comp .seq [.var 3] (.n 8) [.op .ne [.io 8, .io 4]] (.var 8) [8]]),
    .set 6 (.call p [.io 0, .op .lst [.con (.int 0), .con (.int 0), .con (.int 0), .con (.int 1), .con (.int 2), .con (.int 5), .call d [.io 0, .con (.int 1000)]]]),
    .set 7 (.op .add [.op .sub [.call a [.var 2, .var 4], .call a [.var 2, .var 5]], .io 6]),
    .ret (.op .tup [.var 4, .var 5, .op .max2 [.op .neg [.op .pow [.con (.int 10), .con (.int 9)]], .op .min2 [.op .pow [.con (.int 10), .con (.int 9)], .io 7]]])]⟩
def fsRow : FS := fun args K R => ∃ (s : List D) (n : Nat) (xs : List Str) (vs : List (Str × Int)), args = [.fl s, .pu (.lst (xs.map .str)), .pu (.dct (encI vs))] ∧ xs ≠ [] ∧ xs.length ≤ 20 ∧ (∀ x ∈ xs, x ∈ vs.map (·.1)) ∧ (∀ p ∈ vs, 0 ≤ p.2 ∧ p.2 ≤ 10 ^ 9) ∧ Stt n s ∧ n < 10 ^ 14 ∧
  ∀ (f o : Option Str) (b : Int) s', TermOf xs f → TermOf xs o → f ≠ o → -10 ^ 9 ≤ b → b ≤ 10 ^ 9 → tv vs f - tv vs o ≤ b → Stt (n + 10) s' → K (.pu (.tup [tD f, tD o, .int b])) [.fl s']
theorem ok_row {Γ : Gam} {d p a : Nat} (hd : Γ d = fsDraw) (hp : Γ p = fsPick) (ha : Γ a = fsAt) : Fn.Ok Γ (fRow d p a) fsRow := by
  rintro args K R ⟨s, n, xs, vs, rfl, hx0, hx, hxv, hv, hs, hn, hk⟩
  refine ⟨rfl, ?_⟩
  have hz := sizeLine_eq
  unfold fRow
  simp only [DS.wSs, DS.wS, DS.wE, DS.wEs, DS.wAs, DS.wOI, DS.wCs, DS.asK, DS.tkD, DS.avIos, DS.putOs, DS.setAll, DS.opW, DS.bindT, DS.bindTs, DS.startE, DS.mTy, DS.ex_some, DS.ex_publ, DS.ex_int, DS.ex_int2, DS.ex_tup, DS.s_add1, DS.s_add2, DS.s_add3, DS.s_add4, DS.s_sub, DS.s_mul1, DS.s_mul2, DS.s_fdiv, DS.s_mod, DS.s_pow, DS.s_neg, DS.s_cmp1, DS.s_cmp2, DS.s_eq, DS.s_isN, DS.s_in1, DS.s_in2, DS.s_in3, DS.s_in4, DS.s_idx1, DS.s_idx2, DS.s_idx3, DS.s_idx4, DS.s_slc1, DS.s_slc2, DS.s_slc3, DS.s_slc4, DS.s_rev, DS.s_len1, DS.s_len2, DS.s_len3, DS.s_len4, DS.s_len5, DS.s_list1, DS.s_list2, DS.s_list3, DS.s_tuple1, DS.s_tuple2, DS.s_dict1, DS.s_dict2, DS.s_max2, DS.s_min2, DS.s_abs, DS.s_isi, DS.s_sum, DS.s_join, DS.s_upper, DS.s_items, DS.s_vals, DS.s_all, DS.s_str1, DS.s_str2, DS.s_str3, DS.s_int1, DS.s_int2, DS.s_get1, DS.s_get2, DS.s_dct0, DS.s_fz1, DS.s_fz2, DS.s_fz3, DS.s_bf1, DS.s_bf2, DS.s_bf3, DS.s_tr0, DS.s_tr1, DS.s_tr2, DS.s_tr3, DS.s_tr4, DS.s_tr5, DS.s_tr6, DS.s_av0, DS.s_av1, DS.s_av2, DS.s_ag0, DS.s_ag1, DS.s_ag2, DS.s_ty1, DS.s_ty2, DS.s_ty3, DS.s_ix0, DS.s_at0, DS.ex_cons, DS.s_dep1, DS.s_dep2, DS.s_dep3, DS.s_key1, DS.s_key2, DS.s_key3, DS.s_ot0, DS.ex_one, DS.s_ot1, DS.s_sq1, DS.s_sq2, DS.s_sq3, DS.s_sq4, DS.s_rg1, DS.s_rg2, DS.s_en, DS.s_it, DS.s_vl, List.map_cons, List.map_nil, List.cons_append, List.nil_append, List.length_cons, List.length_nil, List.replicate, Nat.add_one_sub_one, Nat.reduceAdd, Nat.reduceSub, List.append_nil, List.getElem?_cons_zero, List.getElem?_cons_succ, List.set_cons_zero, List.set_cons_succ, Option.map_some, Option.some.injEq, exists_eq_left', exists_eq', exists_eq_left, DS.O.pu.injEq, DS.O.fl.injEq, DS.O.fd.injEq, DS.wipeE, DS.backE, Option.getD_some, Option.getD_none, DS.D.bl.injEq, true_and, and_true, if_true, if_false, reduceCtorEq, Bool.false_eq_true, List.nodup_nil, List.nodup_cons, List.not_mem_nil, not_false_eq_true, exists_const, DS.s_at20, DS.s_at21, DS.s_at30, DS.s_at31, DS.s_at32, DS.s_revt, DS.p_non, DS.i_int_non, DS.i_bool_non, DS.i_str_non, DS.i_tuple_non, DS.i_list_non, DS.i_dict_non, DS.i_lt_non, DS.p_bl, DS.i_int_bl, DS.i_bool_bl, DS.i_str_bl, DS.i_tuple_bl, DS.i_list_bl, DS.i_dict_bl, DS.i_lt_bl, DS.p_int, DS.i_int_int, DS.i_bool_int, DS.i_str_int, DS.i_tuple_int, DS.i_list_int, DS.i_dict_int, DS.i_lt_int, DS.p_str, DS.i_int_str, DS.i_bool_str, DS.i_str_str, DS.i_tuple_str, DS.i_list_str, DS.i_dict_str, DS.i_lt_str, DS.p_lst, DS.i_int_lst, DS.i_bool_lst, DS.i_str_lst, DS.i_tuple_lst, DS.i_list_lst, DS.i_dict_lst, DS.i_lt_lst, DS.p_tup, DS.i_int_tup, DS.i_bool_tup, DS.i_str_tup, DS.i_tuple_tup, DS.i_list_tup, DS.i_dict_tup, DS.i_lt_tup, DS.p_dct, DS.i_int_dct, DS.i_bool_dct, DS.i_str_dct, DS.i_tuple_dct, DS.i_list_dct, DS.i_dict_dct, DS.i_lt_dct, DS.ite_tt, DS.ite_ff, Bool.not_true, Bool.not_false, true_and, hp]
  refine ⟨by omega, by simp; omega, ?_⟩
  rw [terms_map]
  refine pick_terms (by simp) (by simp; omega) hs (by omega) fun f s1 hf h1 => ⟨rfl, ?_⟩
  simp only [DS.wSs, DS.wS, DS.wE, DS.wEs, DS.wAs, DS.wOI, DS.wCs, DS.asK, DS.tkD, DS.avIos, DS.putOs, DS.setAll, DS.opW, DS.bindT, DS.bindTs, DS.startE, DS.mTy, DS.ex_some, DS.ex_publ, DS.ex_int, DS.ex_int2, DS.ex_tup, DS.s_add1, DS.s_add2, DS.s_add3, DS.s_add4, DS.s_sub, DS.s_mul1, DS.s_mul2, DS.s_fdiv, DS.s_mod, DS.s_pow, DS.s_neg, DS.s_cmp1, DS.s_cmp2, DS.s_eq, DS.s_isN, DS.s_in1, DS.s_in2, DS.s_in3, DS.s_in4, DS.s_idx1, DS.s_idx2, DS.s_idx3, DS.s_idx4, DS.s_slc1, DS.s_slc2, DS.s_slc3, DS.s_slc4, DS.s_rev, DS.s_len1, DS.s_len2, DS.s_len3, DS.s_len4, DS.s_len5, DS.s_list1, DS.s_list2, DS.s_list3, DS.s_tuple1, DS.s_tuple2, DS.s_dict1, DS.s_dict2, DS.s_max2, DS.s_min2, DS.s_abs, DS.s_isi, DS.s_sum, DS.s_join, DS.s_upper, DS.s_items, DS.s_vals, DS.s_all, DS.s_str1, DS.s_str2, DS.s_str3, DS.s_int1, DS.s_int2, DS.s_get1, DS.s_get2, DS.s_dct0, DS.s_fz1, DS.s_fz2, DS.s_fz3, DS.s_bf1, DS.s_bf2, DS.s_bf3, DS.s_tr0, DS.s_tr1, DS.s_tr2, DS.s_tr3, DS.s_tr4, DS.s_tr5, DS.s_tr6, DS.s_av0, DS.s_av1, DS.s_av2, DS.s_ag0, DS.s_ag1, DS.s_ag2, DS.s_ty1, DS.s_ty2, DS.s_ty3, DS.s_ix0, DS.s_at0, DS.ex_cons, DS.s_dep1, DS.s_dep2, DS.s_dep3, DS.s_key1, DS.s_key2, DS.s_key3, DS.s_ot0, DS.ex_one, DS.s_ot1, DS.s_sq1, DS.s_sq2, DS.s_sq3, DS.s_sq4, DS.s_rg1, DS.s_rg2, DS.s_en, DS.s_it, DS.s_vl, List.map_cons, List.map_nil, List.cons_append, List.nil_append, List.length_cons, List.length_nil, List.replicate, Nat.add_one_sub_one, Nat.reduceAdd, Nat.reduceSub, List.append_nil, List.getElem?_cons_zero, List.getElem?_cons_succ, List.set_cons_zero, List.set_cons_succ, Option.map_some, Option.some.injEq, exists_eq_left', exists_eq', exists_eq_left, DS.O.pu.injEq, DS.O.fl.injEq, DS.O.fd.injEq, DS.wipeE, DS.backE, Option.getD_some, Option.getD_none, DS.D.bl.injEq, true_and, and_true, if_true, if_false, reduceCtorEq, Bool.false_eq_true, List.nodup_nil, List.nodup_cons, List.not_mem_nil, not_false_eq_true, exists_const, DS.s_at20, DS.s_at21, DS.s_at30, DS.s_at31, DS.s_at32, DS.s_revt, DS.p_non, DS.i_int_non, DS.i_bool_non, DS.i_str_non, DS.i_tuple_non, DS.i_list_non, DS.i_dict_non, DS.i_lt_non, DS.p_bl, DS.i_int_bl, DS.i_bool_bl, DS.i_str_bl, DS.i_tuple_bl, DS.i_list_bl, DS.i_dict_bl, DS.i_lt_bl, DS.p_int, DS.i_int_int, DS.i_bool_int, DS.i_str_int, DS.i_tuple_int, DS.i_list_int, DS.i_dict_int, DS.i_lt_int, DS.p_str, DS.i_int_str, DS.i_bool_str, DS.i_str_str, DS.i_tuple_str, DS.i_list_str, DS.i_dict_str, DS.i_lt_str, DS.p_lst, DS.i_int_lst, DS.i_bool_lst, DS.i_str_lst, DS.i_tuple_lst, DS.i_list_lst, DS.i_dict_lst, DS.i_lt_lst, DS.p_tup, DS.i_int_tup, DS.i_bool_tup, DS.i_str_tup, DS.i_tuple_tup, DS.i_list_tup, DS.i_dict_tup, DS.i_lt_tup, DS.p_dct, DS.i_int_dct, DS.i_bool_dct, DS.i_str_dct, DS.i_tuple_dct, DS.i_list_dct, DS.i_dict_dct, DS.i_lt_dct, DS.ite_tt, DS.ite_ff, Bool.not_true, Bool.not_false, true_and]
  refine filt_loop (f := f) (E0 := fun e => ∃ x5 x8, e = [some (.fl s1), some (.pu (.lst (xs.map .str))), some (.pu (.dct (encI vs))), some (.pu (.lst ((none :: xs.map some).map tD))), some (.pu (tD f)), x5, none, none, x8]) ?_ (none :: xs.map some) [] _ ⟨_, _, rfl⟩ (by simp; omega) ?_
  · rintro t e L ⟨x5, x8, rfl⟩ hL
    have := hL [some (.fl s1), some (.pu (.lst (xs.map .str))), some (.pu (.dct (encI vs))), some (.pu (.lst ((none :: xs.map some).map tD))), some (.pu (tD f)), x5, none, none, none] ⟨_, _, rfl⟩
    simp only [DS.wSs, DS.wS, DS.wE, DS.wEs, DS.wAs, DS.wOI, DS.wCs, DS.asK, DS.tkD, DS.avIos, DS.putOs, DS.setAll, DS.opW, DS.bindT, DS.bindTs, DS.startE, DS.mTy, DS.ex_some, DS.ex_publ, DS.ex_int, DS.ex_int2, DS.ex_tup, DS.s_add1, DS.s_add2, DS.s_add3, DS.s_add4, DS.s_sub, DS.s_mul1, DS.s_mul2, DS.s_fdiv, DS.s_mod, DS.s_pow, DS.s_neg, DS.s_cmp1, DS.s_cmp2, DS.s_eq, DS.s_isN, DS.s_in1, DS.s_in2, DS.s_in3, DS.s_in4, DS.s_idx1, DS.s_idx2, DS.s_idx3, DS.s_idx4, DS.s_slc1, DS.s_slc2, DS.s_slc3, DS.s_slc4, DS.s_rev, DS.s_len1, DS.s_len2, DS.s_len3, DS.s_len4, DS.s_len5, DS.s_list1, DS.s_list2, DS.s_list3, DS.s_tuple1, DS.s_tuple2, DS.s_dict1, DS.s_dict2, DS.s_max2, DS.s_min2, DS.s_abs, DS.s_isi, DS.s_sum, DS.s_join, DS.s_upper, DS.s_items, DS.s_vals, DS.s_all, DS.s_str1, DS.s_str2, DS.s_str3, DS.s_int1, DS.s_int2, DS.s_get1, DS.s_get2, DS.s_dct0, DS.s_fz1, DS.s_fz2, DS.s_fz3, DS.s_bf1, DS.s_bf2, DS.s_bf3, DS.s_tr0, DS.s_tr1, DS.s_tr2, DS.s_tr3, DS.s_tr4, DS.s_tr5, DS.s_tr6, DS.s_av0, DS.s_av1, DS.s_av2, DS.s_ag0, DS.s_ag1, DS.s_ag2, DS.s_ty1, DS.s_ty2, DS.s_ty3, DS.s_ix0, DS.s_at0, DS.ex_cons, DS.s_dep1, DS.s_dep2, DS.s_dep3, DS.s_key1, DS.s_key2, DS.s_key3, DS.s_ot0, DS.ex_one, DS.s_ot1, DS.s_sq1, DS.s_sq2, DS.s_sq3, DS.s_sq4, DS.s_rg1, DS.s_rg2, DS.s_en, DS.s_it, DS.s_vl, List.map_cons, List.map_nil, List.cons_append, List.nil_append, List.length_cons, List.length_nil, List.replicate, Nat.add_one_sub_one, Nat.reduceAdd, Nat.reduceSub, List.append_nil, List.getElem?_cons_zero, List.getElem?_cons_succ, List.set_cons_zero, List.set_cons_succ, Option.map_some, Option.some.injEq, exists_eq_left', exists_eq', exists_eq_left, DS.O.pu.injEq, DS.O.fl.injEq, DS.O.fd.injEq, DS.wipeE, DS.backE, Option.getD_some, Option.getD_none, DS.D.bl.injEq, true_and, and_true, if_true, if_false, reduceCtorEq, Bool.false_eq_true, List.nodup_nil, List.nodup_cons, List.not_mem_nil, not_false_eq_true, exists_const, DS.s_at20, DS.s_at21, DS.s_at30, DS.s_at31, DS.s_at32, DS.s_revt, DS.p_non, DS.i_int_non, DS.i_bool_non, DS.i_str_non, DS.i_tuple_non, DS.i_list_non, DS.i_dict_non, DS.i_lt_non, DS.p_bl, DS.i_int_bl, DS.i_bool_bl, DS.i_str_bl, DS.i_tuple_bl, DS.i_list_bl, DS.i_dict_bl, DS.i_lt_bl, DS.p_int, DS.i_int_int, DS.i_bool_int, DS.i_str_int, DS.i_tuple_int, DS.i_list_int, DS.i_dict_int, DS.i_lt_int, DS.p_str, DS.i_int_str, DS.i_bool_str, DS.i_str_str, DS.i_tuple_str, DS.i_list_str, DS.i_dict_str, DS.i_lt_str, DS.p_lst, DS.i_int_lst, DS.i_bool_lst, DS.i_str_lst, DS.i_tuple_lst, DS.i_list_lst, DS.i_dict_lst, DS.i_lt_lst, DS.p_tup, DS.i_int_tup, DS.i_bool_tup, DS.i_str_tup, DS.i_tuple_tup, DS.i_list_tup, DS.i_dict_tup, DS.i_lt_tup, DS.p_dct, DS.i_int_dct, DS.i_bool_dct, DS.i_str_dct, DS.i_tuple_dct, DS.i_list_dct, DS.i_dict_dct, DS.i_lt_dct, DS.ite_tt, DS.ite_ff, Bool.not_true, Bool.not_false, true_and, deq_tD]
    refine ⟨cmp_tD, ?_⟩
    by_cases h : t = f
    · rw [if_pos h] at this
      simp only [h, decide_true, DS.wSs, DS.wS, DS.wE, DS.wEs, DS.wAs, DS.wOI, DS.wCs, DS.asK, DS.tkD, DS.avIos, DS.putOs, DS.setAll, DS.opW, DS.bindT, DS.bindTs, DS.startE, DS.mTy, DS.ex_some, DS.ex_publ, DS.ex_int, DS.ex_int2, DS.ex_tup, DS.s_add1, DS.s_add2, DS.s_add3, DS.s_add4, DS.s_sub, DS.s_mul1, DS.s_mul2, DS.s_fdiv, DS.s_mod, DS.s_pow, DS.s_neg, DS.s_cmp1, DS.s_cmp2, DS.s_eq, DS.s_isN, DS.s_in1, DS.s_in2, DS.s_in3, DS.s_in4, DS.s_idx1, DS.s_idx2, DS.s_idx3, DS.s_idx4, DS.s_slc1, DS.s_slc2, DS.s_slc3, DS.s_slc4, DS.s_rev, DS.s_len1, DS.s_len2, DS.s_len3, DS.s_len4, DS.s_len5, DS.s_list1, DS.s_list2, DS.s_list3, DS.s_tuple1, DS.s_tuple2, DS.s_dict1, DS.s_dict2, DS.s_max2, DS.s_min2, DS.s_abs, DS.s_isi, DS.s_sum, DS.s_join, DS.s_upper, DS.s_items, DS.s_vals, DS.s_all, DS.s_str1, DS.s_str2, DS.s_str3, DS.s_int1, DS.s_int2, DS.s_get1, DS.s_get2, DS.s_dct0, DS.s_fz1, DS.s_fz2, DS.s_fz3, DS.s_bf1, DS.s_bf2, DS.s_bf3, DS.s_tr0, DS.s_tr1, DS.s_tr2, DS.s_tr3, DS.s_tr4, DS.s_tr5, DS.s_tr6, DS.s_av0, DS.s_av1, DS.s_av2, DS.s_ag0, DS.s_ag1, DS.s_ag2, DS.s_ty1, DS.s_ty2, DS.s_ty3, DS.s_ix0, DS.s_at0, DS.ex_cons, DS.s_dep1, DS.s_dep2, DS.s_dep3, DS.s_key1, DS.s_key2, DS.s_key3, DS.s_ot0, DS.ex_one, DS.s_ot1, DS.s_sq1, DS.s_sq2, DS.s_sq3, DS.s_sq4, DS.s_rg1, DS.s_rg2, DS.s_en, DS.s_it, DS.s_vl, List.map_cons, List.map_nil, List.cons_append, List.nil_append, List.length_cons, List.length_nil, List.replicate, Nat.add_one_sub_one, Nat.reduceAdd, Nat.reduceSub, List.append_nil, List.getElem?_cons_zero, List.getElem?_cons_succ, List.set_cons_zero, List.set_cons_succ, Option.map_some, Option.some.injEq, exists_eq_left', exists_eq', exists_eq_left, DS.O.pu.injEq, DS.O.fl.injEq, DS.O.fd.injEq, DS.wipeE, DS.backE, Option.getD_some, Option.getD_none, DS.D.bl.injEq, true_and, and_true, if_true, if_false, reduceCtorEq, Bool.false_eq_true, List.nodup_nil, List.nodup_cons, List.not_mem_nil, not_false_eq_true, exists_const, DS.s_at20, DS.s_at21, DS.s_at30, DS.s_at31, DS.s_at32, DS.s_revt, DS.p_non, DS.i_int_non, DS.i_bool_non, DS.i_str_non, DS.i_tuple_non, DS.i_list_non, DS.i_dict_non, DS.i_lt_non, DS.p_bl, DS.i_int_bl, DS.i_bool_bl, DS.i_str_bl, DS.i_tuple_bl, DS.i_list_bl, DS.i_dict_bl, DS.i_lt_bl, DS.p_int, DS.i_int_int, DS.i_bool_int, DS.i_str_int, DS.i_tuple_int, DS.i_list_int, DS.i_dict_int, DS.i_lt_int, DS.p_str, DS.i_int_str, DS.i_bool_str, DS.i_str_str, DS.i_tuple_str, DS.i_list_str, DS.i_dict_str, DS.i_lt_str, DS.p_lst, DS.i_int_lst, DS.i_bool_lst, DS.i_str_lst, DS.i_tuple_lst, DS.i_list_lst, DS.i_dict_lst, DS.i_lt_lst, DS.p_tup, DS.i_int_tup, DS.i_bool_tup, DS.i_str_tup, DS.i_tuple_tup, DS.i_list_tup, DS.i_dict_tup, DS.i_lt_tup, DS.p_dct, DS.i_int_dct, DS.i_bool_dct, DS.i_str_dct, DS.i_tuple_dct, DS.i_list_dct, DS.i_dict_dct, DS.i_lt_dct, DS.ite_tt, DS.ite_ff, Bool.not_true, Bool.not_false, true_and, tf]
      exact this
    · rw [if_neg h] at this
      simp only [h, decide_false, DS.wSs, DS.wS, DS.wE, DS.wEs, DS.wAs, DS.wOI, DS.wCs, DS.asK, DS.tkD, DS.avIos, DS.putOs, DS.setAll, DS.opW, DS.bindT, DS.bindTs, DS.startE, DS.mTy, DS.ex_some, DS.ex_publ, DS.ex_int, DS.ex_int2, DS.ex_tup, DS.s_add1, DS.s_add2, DS.s_add3, DS.s_add4, DS.s_sub, DS.s_mul1, DS.s_mul2, DS.s_fdiv, DS.s_mod, DS.s_pow, DS.s_neg, DS.s_cmp1, DS.s_cmp2, DS.s_eq, DS.s_isN, DS.s_in1, DS.s_in2, DS.s_in3, DS.s_in4, DS.s_idx1, DS.s_idx2, DS.s_idx3, DS.s_idx4, DS.s_slc1, DS.s_slc2, DS.s_slc3, DS.s_slc4, DS.s_rev, DS.s_len1, DS.s_len2, DS.s_len3, DS.s_len4, DS.s_len5, DS.s_list1, DS.s_list2, DS.s_list3, DS.s_tuple1, DS.s_tuple2, DS.s_dict1, DS.s_dict2, DS.s_max2, DS.s_min2, DS.s_abs, DS.s_isi, DS.s_sum, DS.s_join, DS.s_upper, DS.s_items, DS.s_vals, DS.s_all, DS.s_str1, DS.s_str2, DS.s_str3, DS.s_int1, DS.s_int2, DS.s_get1, DS.s_get2, DS.s_dct0, DS.s_fz1, DS.s_fz2, DS.s_fz3, DS.s_bf1, DS.s_bf2, DS.s_bf3, DS.s_tr0, DS.s_tr1, DS.s_tr2, DS.s_tr3, DS.s_tr4, DS.s_tr5, DS.s_tr6, DS.s_av0, DS.s_av1, DS.s_av2, DS.s_ag0, DS.s_ag1, DS.s_ag2, DS.s_ty1, DS.s_ty2, DS.s_ty3, DS.s_ix0, DS.s_at0, DS.ex_cons, DS.s_dep1, DS.s_dep2, DS.s_dep3, DS.s_key1, DS.s_key2, DS.s_key3, DS.s_ot0, DS.ex_one, DS.s_ot1, DS.s_sq1, DS.s_sq2, DS.s_sq3, DS.s_sq4, DS.s_rg1, DS.s_rg2, DS.s_en, DS.s_it, DS.s_vl, List.map_cons, List.map_nil, List.cons_append, List.nil_append, List.length_cons, List.length_nil, List.replicate, Nat.add_one_sub_one, Nat.reduceAdd, Nat.reduceSub, List.append_nil, List.getElem?_cons_zero, List.getElem?_cons_succ, List.set_cons_zero, List.set_cons_succ, Option.map_some, Option.some.injEq, exists_eq_left', exists_eq', exists_eq_left, DS.O.pu.injEq, DS.O.fl.injEq, DS.O.fd.injEq, DS.wipeE, DS.backE, Option.getD_some, Option.getD_none, DS.D.bl.injEq, true_and, and_true, if_true, if_false, reduceCtorEq, Bool.false_eq_true, List.nodup_nil, List.nodup_cons, List.not_mem_nil, not_false_eq_true, exists_const, DS.s_at20, DS.s_at21, DS.s_at30, DS.s_at31, DS.s_at32, DS.s_revt, DS.p_non, DS.i_int_non, DS.i_bool_non, DS.i_str_non, DS.i_tuple_non, DS.i_list_non, DS.i_dict_non, DS.i_lt_non, DS.p_bl, DS.i_int_bl, DS.i_bool_bl, DS.i_str_bl, DS.i_tuple_bl, DS.i_list_bl, DS.i_dict_bl, DS.i_lt_bl, DS.p_int, DS.i_int_int, DS.i_bool_int, DS.i_str_int, DS.i_tuple_int, DS.i_list_int, DS.i_dict_int, DS.i_lt_int, DS.p_str, DS.i_int_str, DS.i_bool_str, DS.i_str_str, DS.i_tuple_str, DS.i_list_str, DS.i_dict_str, DS.i_lt_str, DS.p_lst, DS.i_int_lst, DS.i_bool_lst, DS.i_str_lst, DS.i_tuple_lst, DS.i_list_lst, DS.i_dict_lst, DS.i_lt_lst, DS.p_tup, DS.i_int_tup, DS.i_bool_tup, DS.i_str_tup, DS.i_tuple_tup, DS.i_list_tup, DS.i_dict_tup, DS.i_lt_tup, DS.p_dct, DS.i_int_dct, DS.i_bool_dct, DS.i_str_dct, DS.i_tuple_dct, DS.i_list_dct, DS.i_dict_dct, DS.i_lt_dct, DS.ite_tt, DS.ite_ff, Bool.not_true, Bool.not_false, true_and, ff]
      exact this
  · rintro e ⟨x5, x8, rfl⟩
    simp only [DS.wSs, DS.wS, DS.wE, DS.wEs, DS.wAs, DS.wOI, DS.wCs, DS.asK, DS.tkD, DS.avIos, DS.putOs, DS.setAll, DS.opW, DS.bindT, DS.bindTs, DS.startE, DS.mTy, DS.ex_some, DS.ex_publ, DS.ex_int, DS.ex_int2, DS.ex_tup, DS.s_add1, DS.s_add2, DS.s_add3, DS.s_add4, DS.s_sub, DS.s_mul1, DS.s_mul2, DS.s_fdiv, DS.s_mod, DS.s_pow, DS.s_neg, DS.s_cmp1, DS.s_cmp2, DS.s_eq, DS.s_isN, DS.s_in1, DS.s_in2, DS.s_in3, DS.s_in4, DS.s_idx1, DS.s_idx2, DS.s_idx3, DS.s_idx4, DS.s_slc1, DS.s_slc2, DS.s_slc3, DS.s_slc4, DS.s_rev, DS.s_len1, DS.s_len2, DS.s_len3, DS.s_len4, DS.s_len5, DS.s_list1, DS.s_list2, DS.s_list3, DS.s_tuple1, DS.s_tuple2, DS.s_dict1, DS.s_dict2, DS.s_max2, DS.s_min2, DS.s_abs, DS.s_isi, DS.s_sum, DS.s_join, DS.s_upper, DS.s_items, DS.s_vals, DS.s_all, DS.s_str1, DS.s_str2, DS.s_str3, DS.s_int1, DS.s_int2, DS.s_get1, DS.s_get2, DS.s_dct0, DS.s_fz1, DS.s_fz2, DS.s_fz3, DS.s_bf1, DS.s_bf2, DS.s_bf3, DS.s_tr0, DS.s_tr1, DS.s_tr2, DS.s_tr3, DS.s_tr4, DS.s_tr5, DS.s_tr6, DS.s_av0, DS.s_av1, DS.s_av2, DS.s_ag0, DS.s_ag1, DS.s_ag2, DS.s_ty1, DS.s_ty2, DS.s_ty3, DS.s_ix0, DS.s_at0, DS.ex_cons, DS.s_dep1, DS.s_dep2, DS.s_dep3, DS.s_key1, DS.s_key2, DS.s_key3, DS.s_ot0, DS.ex_one, DS.s_ot1, DS.s_sq1, DS.s_sq2, DS.s_sq3, DS.s_sq4, DS.s_rg1, DS.s_rg2, DS.s_en, DS.s_it, DS.s_vl, List.map_cons, List.map_nil, List.cons_append, List.nil_append, List.length_cons, List.length_nil, List.replicate, Nat.add_one_sub_one, Nat.reduceAdd, Nat.reduceSub, List.append_nil, List.getElem?_cons_zero, List.getElem?_cons_succ, List.set_cons_zero, List.set_cons_succ, Option.map_some, Option.some.injEq, exists_eq_left', exists_eq', exists_eq_left, DS.O.pu.injEq, DS.O.fl.injEq, DS.O.fd.injEq, DS.wipeE, DS.backE, Option.getD_some, Option.getD_none, DS.D.bl.injEq, true_and, and_true, if_true, if_false, reduceCtorEq, Bool.false_eq_true, List.nodup_nil, List.nodup_cons, List.not_mem_nil, not_false_eq_true, exists_const, DS.s_at20, DS.s_at21, DS.s_at30, DS.s_at31, DS.s_at32, DS.s_revt, DS.p_non, DS.i_int_non, DS.i_bool_non, DS.i_str_non, DS.i_tuple_non, DS.i_list_non, DS.i_dict_non, DS.i_lt_non, DS.p_bl, DS.i_int_bl, DS.i_bool_bl, DS.i_str_bl, DS.i_tuple_bl, DS.i_list_bl, DS.i_dict_bl, DS.i_lt_bl, DS.p_int, DS.i_int_int, DS.i_bool_int, DS.i_str_int, DS.i_tuple_int, DS.i_list_int, DS.i_dict_int, DS.i_lt_int, DS.p_str, DS.i_int_str, DS.i_bool_str, DS.i_str_str, DS.i_tuple_str, DS.i_list_str, DS.i_dict_str, DS.i_lt_str, DS.p_lst, DS.i_int_lst, DS.i_bool_lst, DS.i_str_lst, DS.i_tuple_lst, DS.i_list_lst, DS.i_dict_lst, DS.i_lt_lst, DS.p_tup, DS.i_int_tup, DS.i_bool_tup, DS.i_str_tup, DS.i_tuple_tup, DS.i_list_tup, DS.i_dict_tup, DS.i_lt_tup, DS.p_dct, DS.i_int_dct, DS.i_bool_dct, DS.i_str_dct, DS.i_tuple_dct, DS.i_list_dct, DS.i_dict_dct, DS.i_lt_dct, DS.ite_tt, DS.ite_ff, Bool.not_true, Bool.not_false, true_and, List.nil_append]
    have hfl : (List.filter (fun a => decide (a ≠ f)) (none :: xs.map some)).length ≤ xs.length + 1 := by
      have := List.length_filter_le (fun a => decide (a ≠ f)) (none :: xs.map some)
      simpa using this
    have hfp : 0 < (List.filter (fun a => decide (a ≠ f)) (none :: xs.map some)).length := by
      obtain ⟨x, r, rfl⟩ : ∃ x r, xs = x :: r := by
        cases xs with
        | nil => exact absurd rfl hx0
        | cons x r => exact ⟨x, r, rfl⟩
      apply List.length_pos_of_mem (a := if f = none then some x else none)
      rw [List.mem_filter]
      cases f with
      | none => simp
      | some z => simp
    refine pick_terms hfp (by omega) h1 (by omega) fun o s2 ho h2 => ⟨rfl, ?_⟩
    obtain ⟨ho1, ho2⟩ := List.mem_filter.1 ho
    have hof : f ≠ o := fun e => by simp [e] at ho2
    have tf1 := mem_terms hf
    have to1 := mem_terms ho1
    simp only [DS.wSs, DS.wS, DS.wE, DS.wEs, DS.wAs, DS.wOI, DS.wCs, DS.asK, DS.tkD, DS.avIos, DS.putOs, DS.setAll, DS.opW, DS.bindT, DS.bindTs, DS.startE, DS.mTy, DS.ex_some, DS.ex_publ, DS.ex_int, DS.ex_int2, DS.ex_tup, DS.s_add1, DS.s_add2, DS.s_add3, DS.s_add4, DS.s_sub, DS.s_mul1, DS.s_mul2, DS.s_fdiv, DS.s_mod, DS.s_pow, DS.s_neg, DS.s_cmp1, DS.s_cmp2, DS.s_eq, DS.s_isN, DS.s_in1, DS.s_in2, DS.s_in3, DS.s_in4, DS.s_idx1, DS.s_idx2, DS.s_idx3, DS.s_idx4, DS.s_slc1, DS.s_slc2, DS.s_slc3, DS.s_slc4, DS.s_rev, DS.s_len1, DS.s_len2, DS.s_len3, DS.s_len4, DS.s_len5, DS.s_list1, DS.s_list2, DS.s_list3, DS.s_tuple1, DS.s_tuple2, DS.s_dict1, DS.s_dict2, DS.s_max2, DS.s_min2, DS.s_abs, DS.s_isi, DS.s_sum, DS.s_join, DS.s_upper, DS.s_items, DS.s_vals, DS.s_all, DS.s_str1, DS.s_str2, DS.s_str3, DS.s_int1, DS.s_int2, DS.s_get1, DS.s_get2, DS.s_dct0, DS.s_fz1, DS.s_fz2, DS.s_fz3, DS.s_bf1, DS.s_bf2, DS.s_bf3, DS.s_tr0, DS.s_tr1, DS.s_tr2, DS.s_tr3, DS.s_tr4, DS.s_tr5, DS.s_tr6, DS.s_av0, DS.s_av1, DS.s_av2, DS.s_ag0, DS.s_ag1, DS.s_ag2, DS.s_ty1, DS.s_ty2, DS.s_ty3, DS.s_ix0, DS.s_at0, DS.ex_cons, DS.s_dep1, DS.s_dep2, DS.s_dep3, DS.s_key1, DS.s_key2, DS.s_key3, DS.s_ot0, DS.ex_one, DS.s_ot1, DS.s_sq1, DS.s_sq2, DS.s_sq3, DS.s_sq4, DS.s_rg1, DS.s_rg2, DS.s_en, DS.s_it, DS.s_vl, List.map_cons, List.map_nil, List.cons_append, List.nil_append, List.length_cons, List.length_nil, List.replicate, Nat.add_one_sub_one, Nat.reduceAdd, Nat.reduceSub, List.append_nil, List.getElem?_cons_zero, List.getElem?_cons_succ, List.set_cons_zero, List.set_cons_succ, Option.map_some, Option.some.injEq, exists_eq_left', exists_eq', exists_eq_left, DS.O.pu.injEq, DS.O.fl.injEq, DS.O.fd.injEq, DS.wipeE, DS.backE, Option.getD_some, Option.getD_none, DS.D.bl.injEq, true_and, and_true, if_true, if_false, reduceCtorEq, Bool.false_eq_true, List.nodup_nil, List.nodup_cons, List.not_mem_nil, not_false_eq_true, exists_const, DS.s_at20, DS.s_at21, DS.s_at30, DS.s_at31, DS.s_at32, DS.s_revt, DS.p_non, DS.i_int_non, DS.i_bool_non, DS.i_str_non, DS.i_tuple_non, DS.i_list_non, DS.i_dict_non, DS.i_lt_non, DS.p_bl, DS.i_int_bl, DS.i_bool_bl, DS.i_str_bl, DS.i_tuple_bl, DS.i_list_bl, DS.i_dict_bl, DS.i_lt_bl, DS.p_int, DS.i_int_int, DS.i_bool_int, DS.i_str_int, DS.i_tuple_int, DS.i_list_int, DS.i_dict_int, DS.i_lt_int, DS.p_str, DS.i_int_str, DS.i_bool_str, DS.i_str_str, DS.i_tuple_str, DS.i_list_str, DS.i_dict_str, DS.i_lt_str, DS.p_lst, DS.i_int_lst, DS.i_bool_lst, DS.i_str_lst, DS.i_tuple_lst, DS.i_list_lst, DS.i_dict_lst, DS.i_lt_lst, DS.p_tup, DS.i_int_tup, DS.i_bool_tup, DS.i_str_tup, DS.i_tuple_tup, DS.i_list_tup, DS.i_dict_tup, DS.i_lt_tup, DS.p_dct, DS.i_int_dct, DS.i_bool_dct, DS.i_str_dct, DS.i_tuple_dct, DS.i_list_dct, DS.i_dict_dct, DS.i_lt_dct, DS.ite_tt, DS.ite_ff, Bool.not_true, Bool.not_false, true_and, hd]
    refine ⟨s2, n + 2, 1000, rfl, h2, by omega, by decide, by decide, fun w s3 w0 w1 h3 => ⟨rfl, ?_⟩⟩
    simp only [DS.wSs, DS.wS, DS.wE, DS.wEs, DS.wAs, DS.wOI, DS.wCs, DS.asK, DS.tkD, DS.avIos, DS.putOs, DS.setAll, DS.opW, DS.bindT, DS.bindTs, DS.startE, DS.mTy, DS.ex_some, DS.ex_publ, DS.ex_int, DS.ex_int2, DS.ex_tup, DS.s_add1, DS.s_add2, DS.s_add3, DS.s_add4, DS.s_sub, DS.s_mul1, DS.s_mul2, DS.s_fdiv, DS.s_mod, DS.s_pow, DS.s_neg, DS.s_cmp1, DS.s_cmp2, DS.s_eq, DS.s_isN, DS.s_in1, DS.s_in2, DS.s_in3, DS.s_in4, DS.s_idx1, DS.s_idx2, DS.s_idx3, DS.s_idx4, DS.s_slc1, DS.s_slc2, DS.s_slc3, DS.s_slc4, DS.s_rev, DS.s_len1, DS.s_len2, DS.s_len3, DS.s_len4, DS.s_len5, DS.s_list1, DS.s_list2, DS.s_list3, DS.s_tuple1, DS.s_tuple2, DS.s_dict1, DS.s_dict2, DS.s_max2, DS.s_min2, DS.s_abs, DS.s_isi, DS.s_sum, DS.s_join, DS.s_upper, DS.s_items, DS.s_vals, DS.s_all, DS.s_str1, DS.s_str2, DS.s_str3, DS.s_int1, DS.s_int2, DS.s_get1, DS.s_get2, DS.s_dct0, DS.s_fz1, DS.s_fz2, DS.s_fz3, DS.s_bf1, DS.s_bf2, DS.s_bf3, DS.s_tr0, DS.s_tr1, DS.s_tr2, DS.s_tr3, DS.s_tr4, DS.s_tr5, DS.s_tr6, DS.s_av0, DS.s_av1, DS.s_av2, DS.s_ag0, DS.s_ag1, DS.s_ag2, DS.s_ty1, DS.s_ty2, DS.s_ty3, DS.s_ix0, DS.s_at0, DS.ex_cons, DS.s_dep1, DS.s_dep2, DS.s_dep3, DS.s_key1, DS.s_key2, DS.s_key3, DS.s_ot0, DS.ex_one, DS.s_ot1, DS.s_sq1, DS.s_sq2, DS.s_sq3, DS.s_sq4, DS.s_rg1, DS.s_rg2, DS.s_en, DS.s_it, DS.s_vl, List.map_cons, List.map_nil, List.cons_append, List.nil_append, List.length_cons, List.length_nil, List.replicate, Nat.add_one_sub_one, Nat.reduceAdd, Nat.reduceSub, List.append_nil, List.getElem?_cons_zero, List.getElem?_cons_succ, List.set_cons_zero, List.set_cons_succ, Option.map_some, Option.some.injEq, exists_eq_left', exists_eq', exists_eq_left, DS.O.pu.injEq, DS.O.fl.injEq, DS.O.fd.injEq, DS.wipeE, DS.backE, Option.getD_some, Option.getD_none, DS.D.bl.injEq, true_and, and_true, if_true, if_false, reduceCtorEq, Bool.false_eq_true, List.nodup_nil, List.nodup_cons, List.not_mem_nil, not_false_eq_true, exists_const, DS.s_at20, DS.s_at21, DS.s_at30, DS.s_at31, DS.s_at32, DS.s_revt, DS.p_non, DS.i_int_non, DS.i_bool_non, DS.i_str_non, DS.i_tuple_non, DS.i_list_non, DS.i_dict_non, DS.i_lt_non, DS.p_bl, DS.i_int_bl, DS.i_bool_bl, DS.i_str_bl, DS.i_tuple_bl, DS.i_list_bl, DS.i_dict_bl, DS.i_lt_bl, DS.p_int, DS.i_int_int, DS.i_bool_int, DS.i_str_int, DS.i_tuple_int, DS.i_list_int, DS.i_dict_int, DS.i_lt_int, DS.p_str, DS.i_int_str, DS.i_bool_str, DS.i_str_str, DS.i_tuple_str, DS.i_list_str, DS.i_dict_str, DS.i_lt_str, DS.p_lst, DS.i_int_lst, DS.i_bool_lst, DS.i_str_lst, DS.i_tuple_lst, DS.i_list_lst, DS.i_dict_lst, DS.i_lt_lst, DS.p_tup, DS.i_int_tup, DS.i_bool_tup, DS.i_str_tup, DS.i_tuple_tup, DS.i_list_tup, DS.i_dict_tup, DS.i_lt_tup, DS.p_dct, DS.i_int_dct, DS.i_bool_dct, DS.i_str_dct, DS.i_tuple_dct, DS.i_list_dct, DS.i_dict_dct, DS.i_lt_dct, DS.ite_tt, DS.ite_ff, Bool.not_true, Bool.not_false, true_and, hp]
    refine ⟨by omega, pick_ints (lo := 0) (hi := 1000) ⟨[0, 0, 0, 1, 2, 5, w], rfl, by simp, by simp, ?_⟩ h3 (by omega) fun q s4 q0 q1 h4 => ⟨rfl, ?_⟩⟩
    · intro i hi
      simp only [List.mem_cons, List.not_mem_nil, or_false] at hi
      rcases hi with rfl | rfl | rfl | rfl | rfl | rfl | rfl <;> omega
    simp only [DS.wSs, DS.wS, DS.wE, DS.wEs, DS.wAs, DS.wOI, DS.wCs, DS.asK, DS.tkD, DS.avIos, DS.putOs, DS.setAll, DS.opW, DS.bindT, DS.bindTs, DS.startE, DS.mTy, DS.ex_some, DS.ex_publ, DS.ex_int, DS.ex_int2, DS.ex_tup, DS.s_add1, DS.s_add2, DS.s_add3, DS.s_add4, DS.s_sub, DS.s_mul1, DS.s_mul2, DS.s_fdiv, DS.s_mod, DS.s_pow, DS.s_neg, DS.s_cmp1, DS.s_cmp2, DS.s_eq, DS.s_isN, DS.s_in1, DS.s_in2, DS.s_in3, DS.s_in4, DS.s_idx1, DS.s_idx2, DS.s_idx3, DS.s_idx4, DS.s_slc1, DS.s_slc2, DS.s_slc3, DS.s_slc4, DS.s_rev, DS.s_len1, DS.s_len2, DS.s_len3, DS.s_len4, DS.s_len5, DS.s_list1, DS.s_list2, DS.s_list3, DS.s_tuple1, DS.s_tuple2, DS.s_dict1, DS.s_dict2, DS.s_max2, DS.s_min2, DS.s_abs, DS.s_isi, DS.s_sum, DS.s_join, DS.s_upper, DS.s_items, DS.s_vals, DS.s_all, DS.s_str1, DS.s_str2, DS.s_str3, DS.s_int1, DS.s_int2, DS.s_get1, DS.s_get2, DS.s_dct0, DS.s_fz1, DS.s_fz2, DS.s_fz3, DS.s_bf1, DS.s_bf2, DS.s_bf3, DS.s_tr0, DS.s_tr1, DS.s_tr2, DS.s_tr3, DS.s_tr4, DS.s_tr5, DS.s_tr6, DS.s_av0, DS.s_av1, DS.s_av2, DS.s_ag0, DS.s_ag1, DS.s_ag2, DS.s_ty1, DS.s_ty2, DS.s_ty3, DS.s_ix0, DS.s_at0, DS.ex_cons, DS.s_dep1, DS.s_dep2, DS.s_dep3, DS.s_key1, DS.s_key2, DS.s_key3, DS.s_ot0, DS.ex_one, DS.s_ot1, DS.s_sq1, DS.s_sq2, DS.s_sq3, DS.s_sq4, DS.s_rg1, DS.s_rg2, DS.s_en, DS.s_it, DS.s_vl, List.map_cons, List.map_nil, List.cons_append, List.nil_append, List.length_cons, List.length_nil, List.replicate, Nat.add_one_sub_one, Nat.reduceAdd, Nat.reduceSub, List.append_nil, List.getElem?_cons_zero, List.getElem?_cons_succ, List.set_cons_zero, List.set_cons_succ, Option.map_some, Option.some.injEq, exists_eq_left', exists_eq', exists_eq_left, DS.O.pu.injEq, DS.O.fl.injEq, DS.O.fd.injEq, DS.wipeE, DS.backE, Option.getD_some, Option.getD_none, DS.D.bl.injEq, true_and, and_true, if_true, if_false, reduceCtorEq, Bool.false_eq_true, List.nodup_nil, List.nodup_cons, List.not_mem_nil, not_false_eq_true, exists_const, DS.s_at20, DS.s_at21, DS.s_at30, DS.s_at31, DS.s_at32, DS.s_revt, DS.p_non, DS.i_int_non, DS.i_bool_non, DS.i_str_non, DS.i_tuple_non, DS.i_list_non, DS.i_dict_non, DS.i_lt_non, DS.p_bl, DS.i_int_bl, DS.i_bool_bl, DS.i_str_bl, DS.i_tuple_bl, DS.i_list_bl, DS.i_dict_bl, DS.i_lt_bl, DS.p_int, DS.i_int_int, DS.i_bool_int, DS.i_str_int, DS.i_tuple_int, DS.i_list_int, DS.i_dict_int, DS.i_lt_int, DS.p_str, DS.i_int_str, DS.i_bool_str, DS.i_str_str, DS.i_tuple_str, DS.i_list_str, DS.i_dict_str, DS.i_lt_str, DS.p_lst, DS.i_int_lst, DS.i_bool_lst, DS.i_str_lst, DS.i_tuple_lst, DS.i_list_lst, DS.i_dict_lst, DS.i_lt_lst, DS.p_tup, DS.i_int_tup, DS.i_bool_tup, DS.i_str_tup, DS.i_tuple_tup, DS.i_list_tup, DS.i_dict_tup, DS.i_lt_tup, DS.p_dct, DS.i_int_dct, DS.i_bool_dct, DS.i_str_dct, DS.i_tuple_dct, DS.i_list_dct, DS.i_dict_dct, DS.i_lt_dct, DS.ite_tt, DS.ite_ff, Bool.not_true, Bool.not_false, true_and, ha]
    refine ⟨vs, f, rfl, fun z hz => hxv z (tf1 z hz), rfl, ?_⟩
    simp only [DS.wSs, DS.wS, DS.wE, DS.wEs, DS.wAs, DS.wOI, DS.wCs, DS.asK, DS.tkD, DS.avIos, DS.putOs, DS.setAll, DS.opW, DS.bindT, DS.bindTs, DS.startE, DS.mTy, DS.ex_some, DS.ex_publ, DS.ex_int, DS.ex_int2, DS.ex_tup, DS.s_add1, DS.s_add2, DS.s_add3, DS.s_add4, DS.s_sub, DS.s_mul1, DS.s_mul2, DS.s_fdiv, DS.s_mod, DS.s_pow, DS.s_neg, DS.s_cmp1, DS.s_cmp2, DS.s_eq, DS.s_isN, DS.s_in1, DS.s_in2, DS.s_in3, DS.s_in4, DS.s_idx1, DS.s_idx2, DS.s_idx3, DS.s_idx4, DS.s_slc1, DS.s_slc2, DS.s_slc3, DS.s_slc4, DS.s_rev, DS.s_len1, DS.s_len2, DS.s_len3, DS.s_len4, DS.s_len5, DS.s_list1, DS.s_list2, DS.s_list3, DS.s_tuple1, DS.s_tuple2, DS.s_dict1, DS.s_dict2, DS.s_max2, DS.s_min2, DS.s_abs, DS.s_isi, DS.s_sum, DS.s_join, DS.s_upper, DS.s_items, DS.s_vals, DS.s_all, DS.s_str1, DS.s_str2, DS.s_str3, DS.s_int1, DS.s_int2, DS.s_get1, DS.s_get2, DS.s_dct0, DS.s_fz1, DS.s_fz2, DS.s_fz3, DS.s_bf1, DS.s_bf2, DS.s_bf3, DS.s_tr0, DS.s_tr1, DS.s_tr2, DS.s_tr3, DS.s_tr4, DS.s_tr5, DS.s_tr6, DS.s_av0, DS.s_av1, DS.s_av2, DS.s_ag0, DS.s_ag1, DS.s_ag2, DS.s_ty1, DS.s_ty2, DS.s_ty3, DS.s_ix0, DS.s_at0, DS.ex_cons, DS.s_dep1, DS.s_dep2, DS.s_dep3, DS.s_key1, DS.s_key2, DS.s_key3, DS.s_ot0, DS.ex_one, DS.s_ot1, DS.s_sq1, DS.s_sq2, DS.s_sq3, DS.s_sq4, DS.s_rg1, DS.s_rg2, DS.s_en, DS.s_it, DS.s_vl, List.map_cons, List.map_nil, List.cons_append, List.nil_append, List.length_cons, List.length_nil, List.replicate, Nat.add_one_sub_one, Nat.reduceAdd, Nat.reduceSub, List.append_nil, List.getElem?_cons_zero, List.getElem?_cons_succ, List.set_cons_zero, List.set_cons_succ, Option.map_some, Option.some.injEq, exists_eq_left', exists_eq', exists_eq_left, DS.O.pu.injEq, DS.O.fl.injEq, DS.O.fd.injEq, DS.wipeE, DS.backE, Option.getD_some, Option.getD_none, DS.D.bl.injEq, true_and, and_true, if_true, if_false, reduceCtorEq, Bool.false_eq_true, List.nodup_nil, List.nodup_cons, List.not_mem_nil, not_false_eq_true, exists_const, DS.s_at20, DS.s_at21, DS.s_at30, DS.s_at31, DS.s_at32, DS.s_revt, DS.p_non, DS.i_int_non, DS.i_bool_non, DS.i_str_non, DS.i_tuple_non, DS.i_list_non, DS.i_dict_non, DS.i_lt_non, DS.p_bl, DS.i_int_bl, DS.i_bool_bl, DS.i_str_bl, DS.i_tuple_bl, DS.i_list_bl, DS.i_dict_bl, DS.i_lt_bl, DS.p_int, DS.i_int_int, DS.i_bool_int, DS.i_str_int, DS.i_tuple_int, DS.i_list_int, DS.i_dict_int, DS.i_lt_int, DS.p_str, DS.i_int_str, DS.i_bool_str, DS.i_str_str, DS.i_tuple_str, DS.i_list_str, DS.i_dict_str, DS.i_lt_str, DS.p_lst, DS.i_int_lst, DS.i_bool_lst, DS.i_str_lst, DS.i_tuple_lst, DS.i_list_lst, DS.i_dict_lst, DS.i_lt_lst, DS.p_tup, DS.i_int_tup, DS.i_bool_tup, DS.i_str_tup, DS.i_tuple_tup, DS.i_list_tup, DS.i_dict_tup, DS.i_lt_tup, DS.p_dct, DS.i_int_dct, DS.i_bool_dct, DS.i_str_dct, DS.i_tuple_dct, DS.i_list_dct, DS.i_dict_dct, DS.i_lt_dct, DS.ite_tt, DS.ite_ff, Bool.not_true, Bool.not_false, true_and, ha]
    refine ⟨vs, o, rfl, fun z hz => hxv z (to1 z hz), rfl, ?_⟩
    simp only [DS.wSs, DS.wS, DS.wE, DS.wEs, DS.wAs, DS.wOI, DS.wCs, DS.asK, DS.tkD, DS.avIos, DS.putOs, DS.setAll, DS.opW, DS.bindT, DS.bindTs, DS.startE, DS.mTy, DS.ex_some, DS.ex_publ, DS.ex_int, DS.ex_int2, DS.ex_tup, DS.s_add1, DS.s_add2, DS.s_add3, DS.s_add4, DS.s_sub, DS.s_mul1, DS.s_mul2, DS.s_fdiv, DS.s_mod, DS.s_pow, DS.s_neg, DS.s_cmp1, DS.s_cmp2, DS.s_eq, DS.s_isN, DS.s_in1, DS.s_in2, DS.s_in3, DS.s_in4, DS.s_idx1, DS.s_idx2, DS.s_idx3, DS.s_idx4, DS.s_slc1, DS.s_slc2, DS.s_slc3, DS.s_slc4, DS.s_rev, DS.s_len1, DS.s_len2, DS.s_len3, DS.s_len4, DS.s_len5, DS.s_list1, DS.s_list2, DS.s_list3, DS.s_tuple1, DS.s_tuple2, DS.s_dict1, DS.s_dict2, DS.s_max2, DS.s_min2, DS.s_abs, DS.s_isi, DS.s_sum, DS.s_join, DS.s_upper, DS.s_items, DS.s_vals, DS.s_all, DS.s_str1, DS.s_str2, DS.s_str3, DS.s_int1, DS.s_int2, DS.s_get1, DS.s_get2, DS.s_dct0, DS.s_fz1, DS.s_fz2, DS.s_fz3, DS.s_bf1, DS.s_bf2, DS.s_bf3, DS.s_tr0, DS.s_tr1, DS.s_tr2, DS.s_tr3, DS.s_tr4, DS.s_tr5, DS.s_tr6, DS.s_av0, DS.s_av1, DS.s_av2, DS.s_ag0, DS.s_ag1, DS.s_ag2, DS.s_ty1, DS.s_ty2, DS.s_ty3, DS.s_ix0, DS.s_at0, DS.ex_cons, DS.s_dep1, DS.s_dep2, DS.s_dep3, DS.s_key1, DS.s_key2, DS.s_key3, DS.s_ot0, DS.ex_one, DS.s_ot1, DS.s_sq1, DS.s_sq2, DS.s_sq3, DS.s_sq4, DS.s_rg1, DS.s_rg2, DS.s_en, DS.s_it, DS.s_vl, List.map_cons, List.map_nil, List.cons_append, List.nil_append, List.length_cons, List.length_nil, List.replicate, Nat.add_one_sub_one, Nat.reduceAdd, Nat.reduceSub, List.append_nil, List.getElem?_cons_zero, List.getElem?_cons_succ, List.set_cons_zero, List.set_cons_succ, Option.map_some, Option.some.injEq, exists_eq_left', exists_eq', exists_eq_left, DS.O.pu.injEq, DS.O.fl.injEq, DS.O.fd.injEq, DS.wipeE, DS.backE, Option.getD_some, Option.getD_none, DS.D.bl.injEq, true_and, and_true, if_true, if_false, reduceCtorEq, Bool.false_eq_true, List.nodup_nil, List.nodup_cons, List.not_mem_nil, not_false_eq_true, exists_const, DS.s_at20, DS.s_at21, DS.s_at30, DS.s_at31, DS.s_at32, DS.s_revt, DS.p_non, DS.i_int_non, DS.i_bool_non, DS.i_str_non, DS.i_tuple_non, DS.i_list_non, DS.i_dict_non, DS.i_lt_non, DS.p_bl, DS.i_int_bl, DS.i_bool_bl, DS.i_str_bl, DS.i_tuple_bl, DS.i_list_bl, DS.i_dict_bl, DS.i_lt_bl, DS.p_int, DS.i_int_int, DS.i_bool_int, DS.i_str_int, DS.i_tuple_int, DS.i_list_int, DS.i_dict_int, DS.i_lt_int, DS.p_str, DS.i_int_str, DS.i_bool_str, DS.i_str_str, DS.i_tuple_str, DS.i_list_str, DS.i_dict_str, DS.i_lt_str, DS.p_lst, DS.i_int_lst, DS.i_bool_lst, DS.i_str_lst, DS.i_tuple_lst, DS.i_list_lst, DS.i_dict_lst, DS.i_lt_lst, DS.p_tup, DS.i_int_tup, DS.i_bool_tup, DS.i_str_tup, DS.i_tuple_tup, DS.i_list_tup, DS.i_dict_tup, DS.i_lt_tup, DS.p_dct, DS.i_int_dct, DS.i_bool_dct, DS.i_str_dct, DS.i_tuple_dct, DS.i_list_dct, DS.i_dict_dct, DS.i_lt_dct, DS.ite_tt, DS.ite_ff, Bool.not_true, Bool.not_false, true_and]
    obtain ⟨b1, b2⟩ := tv_bound hxv hv tf1
    obtain ⟨b3, b4⟩ := tv_bound hxv hv to1
    have e9 : (10 : Int) ^ Int.toNat 9 = 1000000000 := by decide
    have e9' : (10 : Int) ^ 9 = 1000000000 := by decide
    simp only [e9] at *
    simp only [e9'] at *
    refine ⟨⟨by decide, by decide⟩, ⟨by decide, by decide⟩, by omega, hk f o _ s4 tf1 to1 hof ?_ ?_ ?_ (h4.mono (by omega))⟩
    · split <;> (try split) <;> omega
    · split <;> (try split) <;> omega
    · split <;> (try split) <;> omega
end DS
/-! DS26: bending things. -/
namespace DS
open PySem PySem.Spec PyProof.Rows L2
/-- a thing after m changes, k levels deep -/
def Th (m : Nat) : Nat → D → Prop
  | 0, d => match d with
    | .non | .bl _ => True
    | .int i => i.natAbs ≤ 10 ^ 9 + m
    | .str z => z.length ≤ 30 * 4 ^ m
    | _ => False
  | k + 1, d => match d with
    | .non | .bl _ => True
    | .int i => i.natAbs ≤ 10 ^ 9 + m
    | .str z => z.length ≤ 30 * 4 ^ m
    | .tup xs => xs.length ≤ 5 * 2 ^ m ∧ ∀ x ∈ xs, Th m k x
    | .lst xs => xs.length ≤ 5 * 2 ^ m ∧ ∀ x ∈ xs, Th m k x
    | .dct kvs => ∀ p ∈ kvs, Th m k p.2
    | _ => False
theorem Th.up {m : Nat} : ∀ {k : Nat} {d : D}, Th m k d → Th m (k + 1) d
  | 0, d, h => by cases d <;> first | exact h | exact h.elim
  | k + 1, d, h => by
    cases d with
    | tup xs => exact ⟨h.1, fun x hx => (h.2 x hx).up⟩
    | lst xs => exact ⟨h.1, fun x hx => (h.2 x hx).up⟩
    | dct kvs => exact fun p hp => (h p hp).up
    | _ => exact h
theorem p4 (m : Nat) : 4 ^ (m + 1) = 4 * 4 ^ m := by rw [Nat.pow_succ]; omega
theorem p2 (m : Nat) : 2 ^ (m + 1) = 2 * 2 ^ m := by rw [Nat.pow_succ]; omega
theorem Th.more {m : Nat} : ∀ {k : Nat} {d : D}, Th m k d → Th (m + 1) k d
  | 0, d, h => by
    have := p4 m
    cases d with
    | int i => show i.natAbs ≤ 10 ^ 9 + (m + 1); have : i.natAbs ≤ 10 ^ 9 + m := h; omega
    | str z => show z.length ≤ 30 * 4 ^ (m + 1); have : z.length ≤ 30 * 4 ^ m := h; omega
    | _ => exact h
  | k + 1, d, h => by
    have := p4 m
    have := p2 m
    cases d with
    | int i => show i.natAbs ≤ 10 ^ 9 + (m + 1); have : i.natAbs ≤ 10 ^ 9 + m := h; omega
    | str z => show z.length ≤ 30 * 4 ^ (m + 1); have : z.length ≤ 30 * 4 ^ m := h; omega
    | tup xs => exact ⟨by have := h.1; omega, fun x hx => (h.2 x hx).more⟩
    | lst xs => exact ⟨by have := h.1; omega, fun x hx => (h.2 x hx).more⟩
    | dct kvs => exact fun p hp => (h p hp).more
    | _ => exact h
theorem Th.step {m k : Nat} {d : D} (h : Th m k d) : Th (m + 1) (k + 1) d := h.up.more
theorem Th.ask {m k : Nat} {d : D} (hm : m ≤ 5) (h : Th m k d) : Askd d := by
  have hz := sizeLine_eq
  have h4 : 4 ^ m ≤ 4 ^ 5 := Nat.pow_le_pow_right (by decide) hm
  cases k <;> cases d <;> first | exact trivial | exact h.elim | skip
  · show _ ≤ sizeLine; have : Str.length _ ≤ 30 * 4 ^ m := h; omega
  · show _ ≤ sizeLine; have : Str.length _ ≤ 30 * 4 ^ m := h; omega
theorem Th.ask3 {m k : Nat} {d : D} (hm : m ≤ 5) (h : Th m k d) : Ask3 d := by
  cases d with
  | tup xs =>
    cases k with
    | zero => exact h.elim
    | succ k => exact fun _ x hx => (h.2 x hx).ask hm
  | _ => exact h.ask hm
theorem depDs_le {n : Nat} : ∀ {xs : List D}, (∀ x ∈ xs, depD x ≤ n) → depDs xs ≤ n
  | [], _ => by simp [depDs]
  | x :: xs, h => by
    simp only [depDs]
    have h1 := h x (List.mem_cons_self ..)
    have h2 := depDs_le fun y hy => h y (List.mem_cons_of_mem _ hy)
    omega
theorem depDk_le {n : Nat} : ∀ {xs : List (D × D)}, (∀ x ∈ xs, depD x.2 ≤ n) → depDk xs ≤ n
  | [], _ => by simp [depDk]
  | x :: xs, h => by
    simp only [depDk]
    have h1 := h x (List.mem_cons_self ..)
    have h2 := depDk_le fun y hy => h y (List.mem_cons_of_mem _ hy)
    omega
theorem Th.dep {m : Nat} : ∀ {k : Nat} {d : D}, Th m k d → depD d ≤ k
  | 0, d, h => by cases d <;> first | exact h.elim | simp [depD]
  | k + 1, d, h => by
    cases d with
    | tup xs => simp only [depD]; have := depDs_le fun x hx => (h.2 x hx).dep; omega
    | lst xs => simp only [depD]; have := depDs_le fun x hx => (h.2 x hx).dep; omega
    | dct kvs => simp only [depD]; have := depDk_le fun x hx => (h x hx).dep; omega
    | scr xs => exact h.elim
    | _ => simp [depD]
theorem pick_all {ys : List D} (Q : D → Prop) (h0 : 0 < ys.length) (h1 : ys.length < 2 ^ 30) (hQ : ∀ y ∈ ys, Q y) {s : List D} {n : Nat} (hs : Stt n s) (hn : n < 10 ^ 15) {K : O → List O → Prop} {R : Xp → List O → Prop} (hk : ∀ y s', Q y → Stt (n + 1) s' → K (.pu y) [.fl s']) : fsPick [.fl s, .pu (.lst ys)] K R :=
  ⟨s, n, _, _, rfl, rfl, h0, h1, hs, hn, fun x s' hx hs' => hk x s' (hQ x hx) hs'⟩
/-! pieces -/
theorem cutL_mem {α : Type} {xs : List α} {a b : Option Int} {x : α} (h : x ∈ cutL xs a b) : x ∈ xs := by
  unfold cutL at h
  exact List.mem_of_mem_drop (List.mem_of_mem_take h)
theorem cutL_len {α : Type} {xs : List α} {a b : Option Int} : (cutL xs a b).length ≤ xs.length := by
  unfold cutL
  rw [List.length_take, List.length_drop]
  omega
theorem cutS_len {z : Str} {a b : Option Int} : (cutS z a b).length ≤ z.length := by
  unfold cutS
  show (List.take _ _).toArray.size ≤ z.cps.size
  rw [List.size_toArray, List.length_take, List.length_drop, Array.length_toList]
  omega
theorem str_app_len (a b : Str) : (a ++ b).length = a.length + b.length := by
  rw [← cds_len, cds_app, List.length_append, cds_len, cds_len]
theorem int_text_len {i : Int} {k : Nat} (h : i.natAbs < 10 ^ k) (hk : 0 < k) : (Str.ofString (toString i)).length ≤ k + 1 := by
  rw [PySem.ofString_length]
  have hr : i.natAbs.repr.length ≤ k := (Nat.length_repr_le_iff hk).2 h
  show (Int.repr i).length ≤ _
  cases i with
  | ofNat n =>
    have : (Int.repr (Int.ofNat n)) = n.repr := rfl
    rw [this]
    have : (Int.ofNat n).natAbs = n := rfl
    rw [this] at hr
    omega
  | negSucc n =>
    have : (Int.repr (Int.negSucc n)) = "-" ++ (n + 1).repr := rfl
    rw [this, String.length_append]
    have : (Int.negSucc n).natAbs = n + 1 := rfl
    rw [this] at hr
    have : "-".length = 1 := by decide
    omega
theorem pick_sign {S : Str} (h0 : 0 < S.length) (h1 : S.length ≤ 1000) {s : List D} {n : Nat} (hs : Stt n s) (hn : n < 10 ^ 15) {K : O → List O → Prop} {R : Xp → List O → Prop} (hk : ∀ c s', c ∈ cds S → Stt (n + 1) s' → K (.pu (.str ⟨#[c]⟩)) [.fl s']) : fsPick [.fl s, .pu (.str S)] K R := by
  have hz := sizeLine_eq
  refine ⟨s, n, _, _, rfl, elts_str (by omega), ?_, ?_, hs, hn, fun x s' hx hs' => ?_⟩
  · rw [List.length_map]; show 0 < (cds S).length; rw [cds_len]; exact h0
  · rw [List.length_map]; show (cds S).length < _; rw [cds_len]; omega
  · obtain ⟨c, hc, rfl⟩ := List.mem_map.1 hx
    exact hk c s' hc hs'
/-! a text bent -/
def fTextBent (d p : Nat) : Fn := ⟨5, 2, [0], [.par [3, 4] [.call d [.io 0, .op .add [.op .len [.io 1], .con (.int 1)]], .call d [.io 0, .con (.int 7)]],
    .set 2 (.call p [.io 0, .con (.str "abzAZ09 _-{`\x40[.")]),
    .ifs (.op .lt [.io 4, .con (.int 3)]) [.ret (.op .add [.op .add [.slc (.io 1) [] [.var 3], .op .idx [.op .lst [.var 2, .con (.str ""), .var 2], .io 4]], .slc (.io 1) [.op .add [.io 3, .op .idx [.op .lst [.con (.int 0), .con (.int 1), .con (.int 1)], .io 4]]] []])] [],
    .ret (.op .idx [.op .lst [.slc (.op .add [.io 1, .con (.str "abcdefg")]) [] [.con (.int 6)], .slc (.op .add [.io 1, .con (.str "abcdefg")]) [] [.con (.int 7)], .con (.str ""), .mth .upper (.io 1) []], .op .sub [.io 4, .con (.int 3)]])]⟩
def fsTextBent : FS := fun args K R => ∃ (s : List D) (n : Nat) (z : Str), args = [.fl s, .pu (.str z)] ∧ z.length ≤ 100000 ∧ Stt n s ∧ n < 10 ^ 14 ∧ ∀ (y : Str) s', y.length ≤ 3 * z.length + 7 → Stt (n + 3) s' → K (.pu (.str y)) [.fl s']
theorem ok_text_bent {Γ : Gam} {d p : Nat} (hd : Γ d = fsDraw) (hp : Γ p = fsPick) : Fn.Ok Γ (fTextBent d p) fsTextBent := by
  rintro args K R ⟨s, n, z, rfl, hz, hs, hn, hk⟩
  refine ⟨rfl, ?_⟩
  have hsz := sizeLine_eq
  unfold fTextBent
  simp only [DS.wSs, DS.wS, DS.wE, DS.wEs, DS.wAs, DS.wOI, DS.wCs, DS.asK, DS.tkD, DS.avIos, DS.putOs, DS.setAll, DS.opW, DS.bindT, DS.bindTs, DS.startE, DS.mTy, DS.ex_some, DS.ex_publ, DS.ex_int, DS.ex_int2, DS.ex_tup, DS.s_add1, DS.s_add2, DS.s_add3, DS.s_add4, DS.s_sub, DS.s_mul1, DS.s_mul2, DS.s_fdiv, DS.s_mod, DS.s_pow, DS.s_neg, DS.s_cmp1, DS.s_cmp2, DS.s_eq, DS.s_isN, DS.s_in1, DS.s_in2, DS.s_in3, DS.s_in4, DS.s_idx1, DS.s_idx2, DS.s_idx3, DS.s_idx4, DS.s_slc1, DS.s_slc2, DS.s_slc3, DS.s_slc4, DS.s_rev, DS.s_len1, DS.s_len2, DS.s_len3, DS.s_len4, DS.s_len5, DS.s_list1, DS.s_list2, DS.s_list3, DS.s_tuple1, DS.s_tuple2, DS.s_dict1, DS.s_dict2, DS.s_max2, DS.s_min2, DS.s_abs, DS.s_isi, DS.s_sum, DS.s_join, DS.s_upper, DS.s_items, DS.s_vals, DS.s_all, DS.s_str1, DS.s_str2, DS.s_str3, DS.s_int1, DS.s_int2, DS.s_get1, DS.s_get2, DS.s_dct0, DS.s_fz1, DS.s_fz2, DS.s_fz3, DS.s_bf1, DS.s_bf2, DS.s_bf3, DS.s_tr0, DS.s_tr1, DS.s_tr2, DS.s_tr3, DS.s_tr4, DS.s_tr5, DS.s_tr6, DS.s_av0, DS.s_av1, DS.s_av2, DS.s_ag0, DS.s_ag1, DS.s_ag2, DS.s_ty1, DS.s_ty2, DS.s_ty3, DS.s_ix0, DS.s_at0, DS.ex_cons, DS.s_dep1, DS.s_dep2, DS.s_dep3, DS.s_key1, DS.s_key2, DS.s_key3, DS.s_ot0, DS.ex_one, DS.s_ot1, DS.s_sq1, DS.s_sq2, DS.s_sq3, DS.s_sq4, DS.s_rg1, DS.s_rg2, DS.s_en, DS.s_it, DS.s_vl, List.map_cons, List.map_nil, List.cons_append, List.nil_append, List.length_cons, List.length_nil, List.replicate, Nat.add_one_sub_one, Nat.reduceAdd, Nat.reduceSub, List.append_nil, List.getElem?_cons_zero, List.getElem?_cons_succ, List.set_cons_zero, List.set_cons_succ, Option.map_some, Option.some.injEq, exists_eq_left', exists_eq', exists_eq_left, DS.O.pu.injEq, DS.O.fl.injEq, DS.O.fd.injEq, DS.wipeE, DS.backE, Option.getD_some, Option.getD_none, DS.D.bl.injEq, true_and, and_true, if_true, if_false, reduceCtorEq, Bool.false_eq_true, List.nodup_nil, List.nodup_cons, List.not_mem_nil, not_false_eq_true, exists_const, DS.s_at20, DS.s_at21, DS.s_at30, DS.s_at31, DS.s_at32, DS.s_revt, DS.p_non, DS.i_int_non, DS.i_bool_non, DS.i_str_non, DS.i_tuple_non, DS.i_list_non, DS.i_dict_non, DS.i_lt_non, DS.p_bl, DS.i_int_bl, DS.i_bool_bl, DS.i_str_bl, DS.i_tuple_bl, DS.i_list_bl, DS.i_dict_bl, DS.i_lt_bl, DS.p_int, DS.i_int_int, DS.i_bool_int, DS.i_str_int, DS.i_tuple_int, DS.i_list_int, DS.i_dict_int, DS.i_lt_int, DS.p_str, DS.i_int_str, DS.i_bool_str, DS.i_str_str, DS.i_tuple_str, DS.i_list_str, DS.i_dict_str, DS.i_lt_str, DS.p_lst, DS.i_int_lst, DS.i_bool_lst, DS.i_str_lst, DS.i_tuple_lst, DS.i_list_lst, DS.i_dict_lst, DS.i_lt_lst, DS.p_tup, DS.i_int_tup, DS.i_bool_tup, DS.i_str_tup, DS.i_tuple_tup, DS.i_list_tup, DS.i_dict_tup, DS.i_lt_tup, DS.p_dct, DS.i_int_dct, DS.i_bool_dct, DS.i_str_dct, DS.i_tuple_dct, DS.i_list_dct, DS.i_dict_dct, DS.i_lt_dct, DS.ite_tt, DS.ite_ff, Bool.not_true, Bool.not_false, true_and, hd]
  refine ⟨by omega, s, n, _, rfl, hs, by omega, by omega, by omega, fun q s1 q0 q1 h1 => ⟨rfl, ?_⟩⟩
  simp only [DS.wSs, DS.wS, DS.wE, DS.wEs, DS.wAs, DS.wOI, DS.wCs, DS.asK, DS.tkD, DS.avIos, DS.putOs, DS.setAll, DS.opW, DS.bindT, DS.bindTs, DS.startE, DS.mTy, DS.ex_some, DS.ex_publ, DS.ex_int, DS.ex_int2, DS.ex_tup, DS.s_add1, DS.s_add2, DS.s_add3, DS.s_add4, DS.s_sub, DS.s_mul1, DS.s_mul2, DS.s_fdiv, DS.s_mod, DS.s_pow, DS.s_neg, DS.s_cmp1, DS.s_cmp2, DS.s_eq, DS.s_isN, DS.s_in1, DS.s_in2, DS.s_in3, DS.s_in4, DS.s_idx1, DS.s_idx2, DS.s_idx3, DS.s_idx4, DS.s_slc1, DS.s_slc2, DS.s_slc3, DS.s_slc4, DS.s_rev, DS.s_len1, DS.s_len2, DS.s_len3, DS.s_len4, DS.s_len5, DS.s_list1, DS.s_list2, DS.s_list3, DS.s_tuple1, DS.s_tuple2, DS.s_dict1, DS.s_dict2, DS.s_max2, DS.s_min2, DS.s_abs, DS.s_isi, DS.s_sum, DS.s_join, DS.s_upper, DS.s_items, DS.s_vals, DS.s_all, DS.s_str1, DS.s_str2, DS.s_str3, DS.s_int1, DS.s_int2, DS.s_get1, DS.s_get2, DS.s_dct0, DS.s_fz1, DS.s_fz2, DS.s_fz3, DS.s_bf1, DS.s_bf2, DS.s_bf3, DS.s_tr0, DS.s_tr1, DS.s_tr2, DS.s_tr3, DS.s_tr4, DS.s_tr5, DS.s_tr6, DS.s_av0, DS.s_av1, DS.s_av2, DS.s_ag0, DS.s_ag1, DS.s_ag2, DS.s_ty1, DS.s_ty2, DS.s_ty3, DS.s_ix0, DS.s_at0, DS.ex_cons, DS.s_dep1, DS.s_dep2, DS.s_dep3, DS.s_key1, DS.s_key2, DS.s_key3, DS.s_ot0, DS.ex_one, DS.s_ot1, DS.s_sq1, DS.s_sq2, DS.s_sq3, DS.s_sq4, DS.s_rg1, DS.s_rg2, DS.s_en, DS.s_it, DS.s_vl, List.map_cons, List.map_nil, List.cons_append, List.nil_append, List.length_cons, List.length_nil, List.replicate, Nat.add_one_sub_one, Nat.reduceAdd, Nat.reduceSub, List.append_nil, List.getElem?_cons_zero, List.getElem?_cons_succ, List.set_cons_zero, List.set_cons_succ, Option.map_some, Option.some.injEq, exists_eq_left', exists_eq', exists_eq_left, DS.O.pu.injEq, DS.O.fl.injEq, DS.O.fd.injEq, DS.wipeE, DS.backE, Option.getD_some, Option.getD_none, DS.D.bl.injEq, true_and, and_true, if_true, if_false, reduceCtorEq, Bool.false_eq_true, List.nodup_nil, List.nodup_cons, List.not_mem_nil, not_false_eq_true, exists_const, DS.s_at20, DS.s_at21, DS.s_at30, DS.s_at31, DS.s_at32, DS.s_revt, DS.p_non, DS.i_int_non, DS.i_bool_non, DS.i_str_non, DS.i_tuple_non, DS.i_list_non, DS.i_dict_non, DS.i_lt_non, DS.p_bl, DS.i_int_bl, DS.i_bool_bl, DS.i_str_bl, DS.i_tuple_bl, DS.i_list_bl, DS.i_dict_bl, DS.i_lt_bl, DS.p_int, DS.i_int_int, DS.i_bool_int, DS.i_str_int, DS.i_tuple_int, DS.i_list_int, DS.i_dict_int, DS.i_lt_int, DS.p_str, DS.i_int_str, DS.i_bool_str, DS.i_str_str, DS.i_tuple_str, DS.i_list_str, DS.i_dict_str, DS.i_lt_str, DS.p_lst, DS.i_int_lst, DS.i_bool_lst, DS.i_str_lst, DS.i_tuple_lst, DS.i_list_lst, DS.i_dict_lst, DS.i_lt_lst, DS.p_tup, DS.i_int_tup, DS.i_bool_tup, DS.i_str_tup, DS.i_tuple_tup, DS.i_list_tup, DS.i_dict_tup, DS.i_lt_tup, DS.p_dct, DS.i_int_dct, DS.i_bool_dct, DS.i_str_dct, DS.i_tuple_dct, DS.i_list_dct, DS.i_dict_dct, DS.i_lt_dct, DS.ite_tt, DS.ite_ff, Bool.not_true, Bool.not_false, true_and]
  refine ⟨s1, _, 7, rfl, h1, by omega, by omega, by omega, fun w s2 w0 w1 h2 => ⟨rfl, ?_⟩⟩
  simp only [DS.wSs, DS.wS, DS.wE, DS.wEs, DS.wAs, DS.wOI, DS.wCs, DS.asK, DS.tkD, DS.avIos, DS.putOs, DS.setAll, DS.opW, DS.bindT, DS.bindTs, DS.startE, DS.mTy, DS.ex_some, DS.ex_publ, DS.ex_int, DS.ex_int2, DS.ex_tup, DS.s_add1, DS.s_add2, DS.s_add3, DS.s_add4, DS.s_sub, DS.s_mul1, DS.s_mul2, DS.s_fdiv, DS.s_mod, DS.s_pow, DS.s_neg, DS.s_cmp1, DS.s_cmp2, DS.s_eq, DS.s_isN, DS.s_in1, DS.s_in2, DS.s_in3, DS.s_in4, DS.s_idx1, DS.s_idx2, DS.s_idx3, DS.s_idx4, DS.s_slc1, DS.s_slc2, DS.s_slc3, DS.s_slc4, DS.s_rev, DS.s_len1, DS.s_len2, DS.s_len3, DS.s_len4, DS.s_len5, DS.s_list1, DS.s_list2, DS.s_list3, DS.s_tuple1, DS.s_tuple2, DS.s_dict1, DS.s_dict2, DS.s_max2, DS.s_min2, DS.s_abs, DS.s_isi, DS.s_sum, DS.s_join, DS.s_upper, DS.s_items, DS.s_vals, DS.s_all, DS.s_str1, DS.s_str2, DS.s_str3, DS.s_int1, DS.s_int2, DS.s_get1, DS.s_get2, DS.s_dct0, DS.s_fz1, DS.s_fz2, DS.s_fz3, DS.s_bf1, DS.s_bf2, DS.s_bf3, DS.s_tr0, DS.s_tr1, DS.s_tr2, DS.s_tr3, DS.s_tr4, DS.s_tr5, DS.s_tr6, DS.s_av0, DS.s_av1, DS.s_av2, DS.s_ag0, DS.s_ag1, DS.s_ag2, DS.s_ty1, DS.s_ty2, DS.s_ty3, DS.s_ix0, DS.s_at0, DS.ex_cons, DS.s_dep1, DS.s_dep2, DS.s_dep3, DS.s_key1, DS.s_key2, DS.s_key3, DS.s_ot0, DS.ex_one, DS.s_ot1, DS.s_sq1, DS.s_sq2, DS.s_sq3, DS.s_sq4, DS.s_rg1, DS.s_rg2, DS.s_en, DS.s_it, DS.s_vl, List.map_cons, List.map_nil, List.cons_append, List.nil_append, List.length_cons, List.length_nil, List.replicate, Nat.add_one_sub_one, Nat.reduceAdd, Nat.reduceSub, List.append_nil, List.getElem?_cons_zero, List.getElem?_cons_succ, List.set_cons_zero, List.set_cons_succ, Option.map_some, Option.some.injEq, exists_eq_left', exists_eq', exists_eq_left, DS.O.pu.injEq, DS.O.fl.injEq, DS.O.fd.injEq, DS.wipeE, DS.backE, Option.getD_some, Option.getD_none, DS.D.bl.injEq, true_and, and_true, if_true, if_false, reduceCtorEq, Bool.false_eq_true, List.nodup_nil, List.nodup_cons, List.not_mem_nil, not_false_eq_true, exists_const, DS.s_at20, DS.s_at21, DS.s_at30, DS.s_at31, DS.s_at32, DS.s_revt, DS.p_non, DS.i_int_non, DS.i_bool_non, DS.i_str_non, DS.i_tuple_non, DS.i_list_non, DS.i_dict_non, DS.i_lt_non, DS.p_bl, DS.i_int_bl, DS.i_bool_bl, DS.i_str_bl, DS.i_tuple_bl, DS.i_list_bl, DS.i_dict_bl, DS.i_lt_bl, DS.p_int, DS.i_int_int, DS.i_bool_int, DS.i_str_int, DS.i_tuple_int, DS.i_list_int, DS.i_dict_int, DS.i_lt_int, DS.p_str, DS.i_int_str, DS.i_bool_str, DS.i_str_str, DS.i_tuple_str, DS.i_list_str, DS.i_dict_str, DS.i_lt_str, DS.p_lst, DS.i_int_lst, DS.i_bool_lst, DS.i_str_lst, DS.i_tuple_lst, DS.i_list_lst, DS.i_dict_lst, DS.i_lt_lst, DS.p_tup, DS.i_int_tup, DS.i_bool_tup, DS.i_str_tup, DS.i_tuple_tup, DS.i_list_tup, DS.i_dict_tup, DS.i_lt_tup, DS.p_dct, DS.i_int_dct, DS.i_bool_dct, DS.i_str_dct, DS.i_tuple_dct, DS.i_list_dct, DS.i_dict_dct, DS.i_lt_dct, DS.ite_tt, DS.ite_ff, Bool.not_true, Bool.not_false, true_and, hp]
  refine pick_sign (by decide) (by decide) h2 (by omega) fun c s3 hc h3 => ⟨rfl, ?_⟩
  simp only [DS.wSs, DS.wS, DS.wE, DS.wEs, DS.wAs, DS.wOI, DS.wCs, DS.asK, DS.tkD, DS.avIos, DS.putOs, DS.setAll, DS.opW, DS.bindT, DS.bindTs, DS.startE, DS.mTy, DS.ex_some, DS.ex_publ, DS.ex_int, DS.ex_int2, DS.ex_tup, DS.s_add1, DS.s_add2, DS.s_add3, DS.s_add4, DS.s_sub, DS.s_mul1, DS.s_mul2, DS.s_fdiv, DS.s_mod, DS.s_pow, DS.s_neg, DS.s_cmp1, DS.s_cmp2, DS.s_eq, DS.s_isN, DS.s_in1, DS.s_in2, DS.s_in3, DS.s_in4, DS.s_idx1, DS.s_idx2, DS.s_idx3, DS.s_idx4, DS.s_slc1, DS.s_slc2, DS.s_slc3, DS.s_slc4, DS.s_rev, DS.s_len1, DS.s_len2, DS.s_len3, DS.s_len4, DS.s_len5, DS.s_list1, DS.s_list2, DS.s_list3, DS.s_tuple1, DS.s_tuple2, DS.s_dict1, DS.s_dict2, DS.s_max2, DS.s_min2, DS.s_abs, DS.s_isi, DS.s_sum, DS.s_join, DS.s_upper, DS.s_items, DS.s_vals, DS.s_all, DS.s_str1, DS.s_str2, DS.s_str3, DS.s_int1, DS.s_int2, DS.s_get1, DS.s_get2, DS.s_dct0, DS.s_fz1, DS.s_fz2, DS.s_fz3, DS.s_bf1, DS.s_bf2, DS.s_bf3, DS.s_tr0, DS.s_tr1, DS.s_tr2, DS.s_tr3, DS.s_tr4, DS.s_tr5, DS.s_tr6, DS.s_av0, DS.s_av1, DS.s_av2, DS.s_ag0, DS.s_ag1, DS.s_ag2, DS.s_ty1, DS.s_ty2, DS.s_ty3, DS.s_ix0, DS.s_at0, DS.ex_cons, DS.s_dep1, DS.s_dep2, DS.s_dep3, DS.s_key1, DS.s_key2, DS.s_key3, DS.s_ot0, DS.ex_one, DS.s_ot1, DS.s_sq1, DS.s_sq2, DS.s_sq3, DS.s_sq4, DS.s_rg1, DS.s_rg2, DS.s_en, DS.s_it, DS.s_vl, List.map_cons, List.map_nil, List.cons_append, List.nil_append, List.length_cons, List.length_nil, List.replicate, Nat.add_one_sub_one, Nat.reduceAdd, Nat.reduceSub, List.append_nil, List.getElem?_cons_zero, List.getElem?_cons_succ, List.set_cons_zero, List.set_cons_succ, Option.map_some, Option.some.injEq, exists_eq_left', exists_eq', exists_eq_left, DS.O.pu.injEq, DS.O.fl.injEq, DS.O.fd.injEq, DS.wipeE, DS.backE, Option.getD_some, Option.getD_none, DS.D.bl.injEq, true_and, and_true, if_true, if_false, reduceCtorEq, Bool.false_eq_true, List.nodup_nil, List.nodup_cons, List.not_mem_nil, not_false_eq_true, exists_const, DS.s_at20, DS.s_at21, DS.s_at30, DS.s_at31, DS.s_at32, DS.s_revt, DS.p_non, DS.i_int_non, DS.i_bool_non, DS.i_str_non, DS.i_tuple_non, DS.i_list_non, DS.i_dict_non, DS.i_lt_non, DS.p_bl, DS.i_int_bl, DS.i_bool_bl, DS.i_str_bl, DS.i_tuple_bl, DS.i_list_bl, DS.i_dict_bl, DS.i_lt_bl, DS.p_int, DS.i_int_int, DS.i_bool_int, DS.i_str_int, DS.i_tuple_int, DS.i_list_int, DS.i_dict_int, DS.i_lt_int, DS.p_str, DS.i_int_str, DS.i_bool_str, DS.i_str_str, DS.i_tuple_str, DS.i_list_str, DS.i_dict_str, DS.i_lt_str, DS.p_lst, DS.i_int_lst, DS.i_bool_lst, DS.i_str_lst, DS.i_tuple_lst, DS.i_list_lst, DS.i_dict_lst, DS.i_lt_lst, DS.p_tup, DS.i_int_tup, DS.i_bool_tup, DS.i_str_tup, DS.i_tuple_tup, DS.i_list_tup, DS.i_dict_tup, DS.i_lt_tup, DS.p_dct, DS.i_int_dct, DS.i_bool_dct, DS.i_str_dct, DS.i_tuple_dct, DS.i_list_dct, DS.i_dict_dct, DS.i_lt_dct, DS.ite_tt, DS.ite_ff, Bool.not_true, Bool.not_false, true_and]
  by_cases hw : w < 3
  · rw [if_pos (by simpa using hw)]
    refine ⟨by omega, by omega, at_of (fun d => ∃ y : Str, d = .str y ∧ y.length ≤ 1) w0 (by simpa using hw) (by simp) ?_ ?_⟩
    · refine List.forall_mem_cons.2 ⟨⟨_, rfl, by show 1 ≤ 1; omega⟩, List.forall_mem_cons.2 ⟨⟨_, rfl, by decide⟩, List.forall_mem_cons.2 ⟨⟨_, rfl, by show 1 ≤ 1; omega⟩, fun _ h => by cases h⟩⟩⟩
    rintro _ ⟨y, rfl, hy⟩
    have l1 := cutS_len (z := z) (a := none) (b := some q)
    simp only [DS.wSs, DS.wS, DS.wE, DS.wEs, DS.wAs, DS.wOI, DS.wCs, DS.asK, DS.tkD, DS.avIos, DS.putOs, DS.setAll, DS.opW, DS.bindT, DS.bindTs, DS.startE, DS.mTy, DS.ex_some, DS.ex_publ, DS.ex_int, DS.ex_int2, DS.ex_tup, DS.s_add1, DS.s_add2, DS.s_add3, DS.s_add4, DS.s_sub, DS.s_mul1, DS.s_mul2, DS.s_fdiv, DS.s_mod, DS.s_pow, DS.s_neg, DS.s_cmp1, DS.s_cmp2, DS.s_eq, DS.s_isN, DS.s_in1, DS.s_in2, DS.s_in3, DS.s_in4, DS.s_idx1, DS.s_idx2, DS.s_idx3, DS.s_idx4, DS.s_slc1, DS.s_slc2, DS.s_slc3, DS.s_slc4, DS.s_rev, DS.s_len1, DS.s_len2, DS.s_len3, DS.s_len4, DS.s_len5, DS.s_list1, DS.s_list2, DS.s_list3, DS.s_tuple1, DS.s_tuple2, DS.s_dict1, DS.s_dict2, DS.s_max2, DS.s_min2, DS.s_abs, DS.s_isi, DS.s_sum, DS.s_join, DS.s_upper, DS.s_items, DS.s_vals, DS.s_all, DS.s_str1, DS.s_str2, DS.s_str3, DS.s_int1, DS.s_int2, DS.s_get1, DS.s_get2, DS.s_dct0, DS.s_fz1, DS.s_fz2, DS.s_fz3, DS.s_bf1, DS.s_bf2, DS.s_bf3, DS.s_tr0, DS.s_tr1, DS.s_tr2, DS.s_tr3, DS.s_tr4, DS.s_tr5, DS.s_tr6, DS.s_av0, DS.s_av1, DS.s_av2, DS.s_ag0, DS.s_ag1, DS.s_ag2, DS.s_ty1, DS.s_ty2, DS.s_ty3, DS.s_ix0, DS.s_at0, DS.ex_cons, DS.s_dep1, DS.s_dep2, DS.s_dep3, DS.s_key1, DS.s_key2, DS.s_key3, DS.s_ot0, DS.ex_one, DS.s_ot1, DS.s_sq1, DS.s_sq2, DS.s_sq3, DS.s_sq4, DS.s_rg1, DS.s_rg2, DS.s_en, DS.s_it, DS.s_vl, List.map_cons, List.map_nil, List.cons_append, List.nil_append, List.length_cons, List.length_nil, List.replicate, Nat.add_one_sub_one, Nat.reduceAdd, Nat.reduceSub, List.append_nil, List.getElem?_cons_zero, List.getElem?_cons_succ, List.set_cons_zero, List.set_cons_succ, Option.map_some, Option.some.injEq, exists_eq_left', exists_eq', exists_eq_left, DS.O.pu.injEq, DS.O.fl.injEq, DS.O.fd.injEq, DS.wipeE, DS.backE, Option.getD_some, Option.getD_none, DS.D.bl.injEq, true_and, and_true, if_true, if_false, reduceCtorEq, Bool.false_eq_true, List.nodup_nil, List.nodup_cons, List.not_mem_nil, not_false_eq_true, exists_const, DS.s_at20, DS.s_at21, DS.s_at30, DS.s_at31, DS.s_at32, DS.s_revt, DS.p_non, DS.i_int_non, DS.i_bool_non, DS.i_str_non, DS.i_tuple_non, DS.i_list_non, DS.i_dict_non, DS.i_lt_non, DS.p_bl, DS.i_int_bl, DS.i_bool_bl, DS.i_str_bl, DS.i_tuple_bl, DS.i_list_bl, DS.i_dict_bl, DS.i_lt_bl, DS.p_int, DS.i_int_int, DS.i_bool_int, DS.i_str_int, DS.i_tuple_int, DS.i_list_int, DS.i_dict_int, DS.i_lt_int, DS.p_str, DS.i_int_str, DS.i_bool_str, DS.i_str_str, DS.i_tuple_str, DS.i_list_str, DS.i_dict_str, DS.i_lt_str, DS.p_lst, DS.i_int_lst, DS.i_bool_lst, DS.i_str_lst, DS.i_tuple_lst, DS.i_list_lst, DS.i_dict_lst, DS.i_lt_lst, DS.p_tup, DS.i_int_tup, DS.i_bool_tup, DS.i_str_tup, DS.i_tuple_tup, DS.i_list_tup, DS.i_dict_tup, DS.i_lt_tup, DS.p_dct, DS.i_int_dct, DS.i_bool_dct, DS.i_str_dct, DS.i_tuple_dct, DS.i_list_dct, DS.i_dict_dct, DS.i_lt_dct, DS.ite_tt, DS.ite_ff, Bool.not_true, Bool.not_false, true_and]
    refine ⟨by omega, by omega, at_of (fun d => ∃ i : Int, d = .int i) w0 (by simpa using hw) (by simp) ?_ ?_⟩
    · exact List.forall_mem_cons.2 ⟨⟨_, rfl⟩, List.forall_mem_cons.2 ⟨⟨_, rfl⟩, List.forall_mem_cons.2 ⟨⟨_, rfl⟩, fun _ h => by cases h⟩⟩⟩
    rintro _ ⟨i, rfl⟩
    simp only [DS.wSs, DS.wS, DS.wE, DS.wEs, DS.wAs, DS.wOI, DS.wCs, DS.asK, DS.tkD, DS.avIos, DS.putOs, DS.setAll, DS.opW, DS.bindT, DS.bindTs, DS.startE, DS.mTy, DS.ex_some, DS.ex_publ, DS.ex_int, DS.ex_int2, DS.ex_tup, DS.s_add1, DS.s_add2, DS.s_add3, DS.s_add4, DS.s_sub, DS.s_mul1, DS.s_mul2, DS.s_fdiv, DS.s_mod, DS.s_pow, DS.s_neg, DS.s_cmp1, DS.s_cmp2, DS.s_eq, DS.s_isN, DS.s_in1, DS.s_in2, DS.s_in3, DS.s_in4, DS.s_idx1, DS.s_idx2, DS.s_idx3, DS.s_idx4, DS.s_slc1, DS.s_slc2, DS.s_slc3, DS.s_slc4, DS.s_rev, DS.s_len1, DS.s_len2, DS.s_len3, DS.s_len4, DS.s_len5, DS.s_list1, DS.s_list2, DS.s_list3, DS.s_tuple1, DS.s_tuple2, DS.s_dict1, DS.s_dict2, DS.s_max2, DS.s_min2, DS.s_abs, DS.s_isi, DS.s_sum, DS.s_join, DS.s_upper, DS.s_items, DS.s_vals, DS.s_all, DS.s_str1, DS.s_str2, DS.s_str3, DS.s_int1, DS.s_int2, DS.s_get1, DS.s_get2, DS.s_dct0, DS.s_fz1, DS.s_fz2, DS.s_fz3, DS.s_bf1, DS.s_bf2, DS.s_bf3, DS.s_tr0, DS.s_tr1, DS.s_tr2, DS.s_tr3, DS.s_tr4, DS.s_tr5, DS.s_tr6, DS.s_av0, DS.s_av1, DS.s_av2, DS.s_ag0, DS.s_ag1, DS.s_ag2, DS.s_ty1, DS.s_ty2, DS.s_ty3, DS.s_ix0, DS.s_at0, DS.ex_cons, DS.s_dep1, DS.s_dep2, DS.s_dep3, DS.s_key1, DS.s_key2, DS.s_key3, DS.s_ot0, DS.ex_one, DS.s_ot1, DS.s_sq1, DS.s_sq2, DS.s_sq3, DS.s_sq4, DS.s_rg1, DS.s_rg2, DS.s_en, DS.s_it, DS.s_vl, List.map_cons, List.map_nil, List.cons_append, List.nil_append, List.length_cons, List.length_nil, List.replicate, Nat.add_one_sub_one, Nat.reduceAdd, Nat.reduceSub, List.append_nil, List.getElem?_cons_zero, List.getElem?_cons_succ, List.set_cons_zero, List.set_cons_succ, Option.map_some, Option.some.injEq, exists_eq_left', exists_eq', exists_eq_left, DS.O.pu.injEq, DS.O.fl.injEq, DS.O.fd.injEq, DS.wipeE, DS.backE, Option.getD_some, Option.getD_none, DS.D.bl.injEq, true_and, and_true, if_true, if_false, reduceCtorEq, Bool.false_eq_true, List.nodup_nil, List.nodup_cons, List.not_mem_nil, not_false_eq_true, exists_const, DS.s_at20, DS.s_at21, DS.s_at30, DS.s_at31, DS.s_at32, DS.s_revt, DS.p_non, DS.i_int_non, DS.i_bool_non, DS.i_str_non, DS.i_tuple_non, DS.i_list_non, DS.i_dict_non, DS.i_lt_non, DS.p_bl, DS.i_int_bl, DS.i_bool_bl, DS.i_str_bl, DS.i_tuple_bl, DS.i_list_bl, DS.i_dict_bl, DS.i_lt_bl, DS.p_int, DS.i_int_int, DS.i_bool_int, DS.i_str_int, DS.i_tuple_int, DS.i_list_int, DS.i_dict_int, DS.i_lt_int, DS.p_str, DS.i_int_str, DS.i_bool_str, DS.i_str_str, DS.i_tuple_str, DS.i_list_str, DS.i_dict_str, DS.i_lt_str, DS.p_lst, DS.i_int_lst, DS.i_bool_lst, DS.i_str_lst, DS.i_tuple_lst, DS.i_list_lst, DS.i_dict_lst, DS.i_lt_lst, DS.p_tup, DS.i_int_tup, DS.i_bool_tup, DS.i_str_tup, DS.i_tuple_tup, DS.i_list_tup, DS.i_dict_tup, DS.i_lt_tup, DS.p_dct, DS.i_int_dct, DS.i_bool_dct, DS.i_str_dct, DS.i_tuple_dct, DS.i_list_dct, DS.i_dict_dct, DS.i_lt_dct, DS.ite_tt, DS.ite_ff, Bool.not_true, Bool.not_false, true_and]
    have l2 := cutS_len (z := z) (a := some (q + i)) (b := none)
    refine ⟨by omega, by rw [str_app_len]; omega, hk _ s3 (by rw [str_app_len, str_app_len]; omega) h3⟩
  · rw [if_neg (by simpa using hw)]
    have la : (Str.ofString "abcdefg").length = 7 := by decide
    have l0 : (z ++ Str.ofString "abcdefg").length = z.length + 7 := by rw [str_app_len, la]
    refine ⟨by omega, by omega, by omega, by omega, ⟨_, _, rfl, rfl, rfl⟩, by omega, by omega, at_of (fun d => ∃ y : Str, d = .str y ∧ y.length ≤ 3 * z.length + 7) (by omega) (by simp; omega) (by simp) ?_ ?_⟩
    · have l3 := cutS_len (z := z ++ Str.ofString "abcdefg") (a := none) (b := some 6)
      have l4 := cutS_len (z := z ++ Str.ofString "abcdefg") (a := none) (b := some 7)
      refine List.forall_mem_cons.2 ⟨⟨_, rfl, by omega⟩, List.forall_mem_cons.2 ⟨⟨_, rfl, by omega⟩, List.forall_mem_cons.2 ⟨⟨_, rfl, by rw [show (Str.ofString "").length = 0 by decide]; omega⟩, List.forall_mem_cons.2 ⟨⟨_, rfl, ?_⟩, fun _ h => by cases h⟩⟩⟩⟩
      have := len_upper z
      omega
    rintro _ ⟨y, rfl, hy⟩
    exact hk y s3 hy h3
end DS
namespace K01
open PySem PySem.Spec PyProof.Rows L2 DS
abbrev pw := PySem.Challenge.pw_lateamounts_k01_names_and_constraints_re
def topOf (P : Program) (i : Nat) : Stmt := P.main.body.getD i (.Pass ⟨0, 0, 0, 0⟩)
/-- is_number -/
def N0 : List Str := ["value", "low", "high"]
def f0 : Fn := fNumber
abbrev s0 : Stmt := topOf pw 3
abbrev P0 : List Str := ["value", "low", "high"]
/-- is_name -/
def N1 : List Str := ["value", "sign"]
def f1 : Fn := fName
abbrev s1 : Stmt := topOf pw 4
abbrev P1 : List Str := ["value"]
/-- is_term -/
def N2 : List Str := ["value"]
def f2 : Fn := fTerm 1
abbrev s2 : Stmt := topOf pw 5
abbrev P2 : List Str := ["value"]
/-- is_constraint -/
def N3 : List Str := ["value", "left", "right", "bound"]
def f3 : Fn := fCons 0 2
abbrev s3 : Stmt := topOf pw 6
abbrev P3 : List Str := ["value"]
/-- _law_begin -/
def N4 : List Str := ["_law_cell", "_law_turn"]
def f4 : Fn := ⟨2, 2, [], [.ret (.op .lst [.op .max2 [.con (.int 0), .op .sub [.io 0, .op .pow [.con (.int 10), .con (.int 18)]]], .op .add [.io 0, .op .mul [.con (.int 977), .io 1]], .con (.int 0)])]⟩
abbrev s4 : Stmt := topOf pw 8
abbrev P4 : List Str := ["_law_cell", "_law_turn"]
/-- _law_draw -/
def N5 : List Str := ["_law_state", "_law_size", "_law_found"]
def f5 : Fn := fDraw
abbrev s5 : Stmt := topOf pw 9
abbrev P5 : List Str := ["_law_state", "_law_size"]
/-- _law_pick -/
def N6 : List Str := ["_law_state", "_law_items"]
def f6 : Fn := fPick 5
abbrev s6 : Stmt := topOf pw 10
abbrev P6 : List Str := ["_law_state", "_law_items"]
/-- _law_names -/
def N7 : List Str := ["_law_state", "_law_size", "_law_turn", "_law_words", "_law_found", "_law_word", "_law_k", "_law_sign"]
def f7 : Fn := fNames 5 6
abbrev s7 : Stmt := topOf pw 11
abbrev P7 : List Str := ["_law_state", "_law_size"]
/-- _law_hidden -/
def N8 : List Str := ["_law_state", "_law_names_here", "_law_kind", "_law_found", "_law_name", "_law_sizes"]
def f8 : Fn := fHidden 5 6
abbrev s8 : Stmt := topOf pw 12
abbrev P8 : List Str := ["_law_state", "_law_names_here"]
/-- _law_at -/
def N9 : List Str := ["_law_hidden_here", "_law_term"]
def f9 : Fn := fAt
abbrev s9 : Stmt := topOf pw 13
abbrev P9 : List Str := ["_law_hidden_here", "_law_term"]
/-- _law_row -/
def N10 : List Str := ["_law_state", "_law_names_here", "_law_hidden_here", "_law_terms", "_law_first", "_law_other", "_law_slack", "_law_gap", "_law_term"]
def f10 : Fn := fRow 5 6 9
abbrev s10 : Stmt := topOf pw 14
abbrev P10 : List Str := ["_law_state", "_law_names_here", "_law_hidden_here"]
/-- _law_text_bent -/
def N11 : List Str := ["_law_state", "_law_text", "_law_sign", "_law_at_here", "_law_way"]
def f11 : Fn := fTextBent 5 6
abbrev s11 : Stmt := topOf pw 15
abbrev P11 : List Str := ["_law_state", "_law_text"]
/-- _law_number_bent -/
def N12 : List Str := ["_law_state", "_law_number", "_law_some"]
def f12 : Fn := ⟨3, 2, [0], [.set 2 (.op .lst [.op .add [.io 1, .con (.int 1)], .op .sub [.io 1, .con (.int 1)], .op .sub [.con (.int 0), .io 1], .op .pow [.con (.int 10), .con (.int 9)], .op .add [.op .pow [.con (.int 10), .con (.int 9)], .con (.int 1)], .op .neg [.op .pow [.con (.int 10), .con (.int 9)]], .op .sub [.op .neg [.op .pow [.con (.int 10), .con (.int 9)]], .con (.int 1)], .con (.int 0)]),
    .ret (.call 6 [.io 0, .op .add [.io 2, .op .lst [.con (.bl true), .con (.bl false), .con .non, .op .strOf [.io 1], .con (.str ""), .op .tup [.var 1]]]])]⟩
abbrev s12 : Stmt := topOf pw 16
abbrev P12 : List Str := ["_law_state", "_law_number"]
/-- _law_bent -/
def N17 : List Str := ["_law_state", "_law_thing", "_law_at_here", "_law_some"]
def fn17 (rr : Nat) : Fn := ⟨4, 2, [0], [.ifs (.andE (.op (.isi ["tuple"]) [.io 1]) (.andE (.op .ne [.io 1, .op .tup []]) (.op .gt [.call 5 [.io 0, .con (.int 4)], .con (.int 0)]))) [.set 2 (.call 5 [.io 0, .op .len [.io 1]]),
    .ret (.op .add [.op .add [.slc (.io 1) [] [.var 2], .op .tup [.call (rr) [.io 0, .op .idx [.io 1, .io 2]]]], .slc (.io 1) [.op .add [.io 2, .con (.int 1)]] []])] [],
    .ifs (.op (.isi ["tuple"]) [.io 1]) [.set 2 (.call 5 [.io 0, .op .add [.op .len [.io 1], .con (.int 1)]]),
    .set 3 (.op .lst [.op .add [.slc (.io 1) [] [.var 2], .slc (.io 1) [.op .add [.io 2, .con (.int 1)]] []], .op .add [.io 1, .slc (.io 1) [.var 2] [.op .add [.io 2, .con (.int 1)]]], .op .rev [.io 1], .op .listOf [.io 1], .op .tup [.var 1], .op .tup []]),
    .ret (.call 6 [.io 0, .op .add [.io 3, .op .lst [.op .add [.slc (.io 1) [.con (.int 1)] [], .slc (.io 1) [] [.con (.int 1)]], .op .dictOf [.op .lst [.op .tup [.con (.int 0), .var 1]]]]]])] [],
    .ifs (.op (.isi ["str"]) [.io 1]) [.ret (.call 11 [.io 0, .var 1])] [],
    .ifs (.andE (.op (.isi ["int"]) [.io 1]) (.notE (.op (.isi ["bool"]) [.io 1]))) [.ret (.call 12 [.io 0, .var 1])] [],
    .ret (.call 6 [.io 0, .op .lst [.con .non, .con (.str "a"), .con (.str "abcdef"), .con (.str "abcdefg"), .con (.int 0), .con (.int 1), .con (.bl true), .op .tup [], .op .tup [.con (.str "a")], .op .lst [], .op .lst [.con (.str "a")], .op .dct []]])]⟩
def f13 : Fn := fn17 12
abbrev s13 : Stmt := topOf pw 17
abbrev P13 : List Str := ["_law_state", "_law_thing"]
abbrev N13 : List Str := N17
def f14 : Fn := fn17 13
abbrev s14 : Stmt := topOf pw 17
abbrev P14 : List Str := ["_law_state", "_law_thing"]
abbrev N14 : List Str := N17
def f15 : Fn := fn17 14
abbrev s15 : Stmt := topOf pw 17
abbrev P15 : List Str := ["_law_state", "_law_thing"]
abbrev N15 : List Str := N17
def f16 : Fn := fn17 15
abbrev s16 : Stmt := topOf pw 17
abbrev P16 : List Str := ["_law_state", "_law_thing"]
abbrev N16 : List Str := N17
def f17 : Fn := fn17 16
abbrev s17 : Stmt := topOf pw 17
abbrev P17 : List Str := ["_law_state", "_law_thing"]
/-- _law_is_name -/
def N18 : List Str := ["_law_thing", "_law_sign"]
def f18 : Fn := ⟨2, 1, [], [.ifs (.orE (.notE (.op (.isi ["str"]) [.io 0])) (.op .nin [.op .len [.io 0], .op .tup [.con (.int 1), .con (.int 2), .con (.int 3), .con (.int 4), .con (.int 5), .con (.int 6)]])) [.ret (.con (.bl false))] [],
    .ret (.op .eq [.comp .seq [.var 0] (.n 1) [.op .nin [.io 1, .con (.str "abcdefghijklmnopqrstuvwxyz")]] (.var 1) [1], .op .lst []])]⟩
abbrev s18 : Stmt := topOf pw 18
abbrev P18 : List Str := ["_law_thing"]
/-- _law_is_row -/
def N19 : List Str := ["_law_thing", "_law_first", "_law_other", "_law_bound"]
def f19 : Fn := ⟨4, 1, [], [.ifs (.orE (.notE (.op (.isi ["tuple"]) [.io 0])) (.op .ne [.op .len [.io 0], .con (.int 3)])) [.ret (.con (.bl false))] [],
    .tgt (.t [.n 1, .n 2, .n 3]) (.var 0),
    .ifs (.orE (.andE (.op .notN [.io 1]) (.notE (.call 18 [.var 1]))) (.andE (.op .notN [.io 2]) (.notE (.call 18 [.var 2])))) [.ret (.con (.bl false))] [],
    .ifs (.orE (.andE (.op .isN [.io 1]) (.op .isN [.io 2])) (.andE (.call 18 [.var 1]) (.andE (.call 18 [.var 2]) (.op .eq [.io 1, .io 2])))) [.ret (.con (.bl false))] [],
    .ret (.andE (.op (.isi ["int"]) [.io 3]) (.andE (.notE (.op (.isi ["bool"]) [.io 3])) (.andE (.op .ge [.io 3, .op .neg [.op .pow [.con (.int 10), .con (.int 9)]]]) (.op .le [.io 3, .op .pow [.con (.int 10), .con (.int 9)]]))))]⟩
abbrev s19 : Stmt := topOf pw 19
abbrev P19 : List Str := ["_law_thing"]
/-- _law_right -/
def N20 : List Str := ["_law_thing", "_law_told", "_law_one"]
def f20 : Fn := ⟨3, 1, [], [.set 1 (.op .lst [.call 1 [.var 0], .call 3 [.var 0]]),
    .ret (.op .eq [.comp .seq [.var 1] (.n 2) [] (.op .strOf [.io 2]) [2], .op .lst [.op .strOf [.call 18 [.var 0]], .op .strOf [.call 19 [.var 0]]]])]⟩
abbrev s20 : Stmt := topOf pw 20
abbrev P20 : List Str := ["_law_thing"]
/-- law -/
def N21 : List Str := ["_law_script", "_law_turn", "_law_cell", "_law_state", "_law_names_here", "_law_row_here", "_law_thing", "_law_change"]
def f21 : Fn := ⟨8, 1, [], [.fo .enm [.slc (.orE (.var 0) (.op .lst [.con (.int 5)])) [] [.con (.int 10)]] (.t [.n 1, .n 2]) [.set 3 (.call 4 [.var 2, .var 1]),
    .set 4 (.call 7 [.io 3, .op .add [.con (.int 1), .call 5 [.io 3, .con (.int 4)]]]),
    .set 5 (.call 10 [.io 3, .var 4, .call 8 [.io 3, .var 4]]),
    .fo .seq [.op .lst [.var 5, .call 6 [.io 3, .var 4], .op .idx [.io 5, .con (.int 2)], .slc (.io 5) [] [.con (.int 2)]]] (.n 6) [.fo .rng [.call 5 [.io 3, .con (.int 4)]] (.n 7) [.set 6 (.call 17 [.io 3, .var 6])],
    .ifs (.notE (.call 20 [.var 6])) [.ret (.con (.bl false))] []]],
    .ret (.con (.bl true))]⟩
abbrev s21 : Stmt := topOf pw 21
abbrev P21 : List Str := ["_law_script"]
def cs : List (Str × Option Str × D) := [("LONGEST_NAME", none, (.int 6)), ("MOST_BOUND", none, (.int 1000000000))]
end K01
namespace K01
open PySem PySem.Spec PyProof.Rows L2 DS
def fsNb : FS := fun args K R => ∃ (s : List D) (n m : Nat) (i : Int), args = [.fl s, .pu (.int i)] ∧ m ≤ 5 ∧ i.natAbs ≤ 10 ^ 9 + m ∧ Stt n s ∧ n < 10 ^ 14 ∧ ∀ (d : D) s', Th (m + 1) 1 d → Stt (n + 1) s' → K (.pu d) [.fl s']
theorem ok12 {Γ : Gam} (hp : Γ 6 = fsPick) : Fn.Ok Γ f12 fsNb := by
  rintro args K R ⟨s, n, m, i, rfl, hm, hi, hs, hn, hk⟩
  refine ⟨rfl, ?_⟩
  have hz := sizeLine_eq
  unfold f12
  simp only [DS.wSs, DS.wS, DS.wE, DS.wEs, DS.wAs, DS.wOI, DS.wCs, DS.asK, DS.tkD, DS.avIos, DS.putOs, DS.setAll, DS.opW, DS.bindT, DS.bindTs, DS.startE, DS.mTy, DS.ex_some, DS.ex_publ, DS.ex_int, DS.ex_int2, DS.ex_tup, DS.s_add1, DS.s_add2, DS.s_add3, DS.s_add4, DS.s_sub, DS.s_mul1, DS.s_mul2, DS.s_fdiv, DS.s_mod, DS.s_pow, DS.s_neg, DS.s_cmp1, DS.s_cmp2, DS.s_eq, DS.s_isN, DS.s_in1, DS.s_in2, DS.s_in3, DS.s_in4, DS.s_idx1, DS.s_idx2, DS.s_idx3, DS.s_idx4, DS.s_slc1, DS.s_slc2, DS.s_slc3, DS.s_slc4, DS.s_rev, DS.s_len1, DS.s_len2, DS.s_len3, DS.s_len4, DS.s_len5, DS.s_list1, DS.s_list2, DS.s_list3, DS.s_tuple1, DS.s_tuple2, DS.s_dict1, DS.s_dict2, DS.s_max2, DS.s_min2, DS.s_abs, DS.s_isi, DS.s_sum, DS.s_join, DS.s_upper, DS.s_items, DS.s_vals, DS.s_all, DS.s_str1, DS.s_str2, DS.s_str3, DS.s_int1, DS.s_int2, DS.s_get1, DS.s_get2, DS.s_dct0, DS.s_fz1, DS.s_fz2, DS.s_fz3, DS.s_bf1, DS.s_bf2, DS.s_bf3, DS.s_tr0, DS.s_tr1, DS.s_tr2, DS.s_tr3, DS.s_tr4, DS.s_tr5, DS.s_tr6, DS.s_av0, DS.s_av1, DS.s_av2, DS.s_ag0, DS.s_ag1, DS.s_ag2, DS.s_ty1, DS.s_ty2, DS.s_ty3, DS.s_ix0, DS.s_at0, DS.ex_cons, DS.s_dep1, DS.s_dep2, DS.s_dep3, DS.s_key1, DS.s_key2, DS.s_key3, DS.s_ot0, DS.ex_one, DS.s_ot1, DS.s_sq1, DS.s_sq2, DS.s_sq3, DS.s_sq4, DS.s_rg1, DS.s_rg2, DS.s_en, DS.s_it, DS.s_vl, List.map_cons, List.map_nil, List.cons_append, List.nil_append, List.length_cons, List.length_nil, List.replicate, Nat.add_one_sub_one, Nat.reduceAdd, Nat.reduceSub, List.append_nil, List.getElem?_cons_zero, List.getElem?_cons_succ, List.set_cons_zero, List.set_cons_succ, Option.map_some, Option.some.injEq, exists_eq_left', exists_eq', exists_eq_left, DS.O.pu.injEq, DS.O.fl.injEq, DS.O.fd.injEq, DS.wipeE, DS.backE, Option.getD_some, Option.getD_none, DS.D.bl.injEq, true_and, and_true, if_true, if_false, reduceCtorEq, Bool.false_eq_true, List.nodup_nil, List.nodup_cons, List.not_mem_nil, not_false_eq_true, exists_const, DS.s_at20, DS.s_at21, DS.s_at30, DS.s_at31, DS.s_at32, DS.s_revt, DS.p_non, DS.i_int_non, DS.i_bool_non, DS.i_str_non, DS.i_tuple_non, DS.i_list_non, DS.i_dict_non, DS.i_lt_non, DS.p_bl, DS.i_int_bl, DS.i_bool_bl, DS.i_str_bl, DS.i_tuple_bl, DS.i_list_bl, DS.i_dict_bl, DS.i_lt_bl, DS.p_int, DS.i_int_int, DS.i_bool_int, DS.i_str_int, DS.i_tuple_int, DS.i_list_int, DS.i_dict_int, DS.i_lt_int, DS.p_str, DS.i_int_str, DS.i_bool_str, DS.i_str_str, DS.i_tuple_str, DS.i_list_str, DS.i_dict_str, DS.i_lt_str, DS.p_lst, DS.i_int_lst, DS.i_bool_lst, DS.i_str_lst, DS.i_tuple_lst, DS.i_list_lst, DS.i_dict_lst, DS.i_lt_lst, DS.p_tup, DS.i_int_tup, DS.i_bool_tup, DS.i_str_tup, DS.i_tuple_tup, DS.i_list_tup, DS.i_dict_tup, DS.i_lt_tup, DS.p_dct, DS.i_int_dct, DS.i_bool_dct, DS.i_str_dct, DS.i_tuple_dct, DS.i_list_dct, DS.i_dict_dct, DS.i_lt_dct, DS.ite_tt, DS.ite_ff, Bool.not_true, Bool.not_false, true_and, hp]
  have hb : i.natAbs < 10 ^ 10 := by omega
  have hlog : i.natAbs.log2 < 1920 := by
    have := PySem.Flt.log2_lt_of (n := i.natAbs) (k := 40) (by decide) (by omega)
    omega
  have e9 : (10 : Int) ^ Int.toNat 9 = 1000000000 := by decide
  simp only [e9]
  have ti : ∀ j : Int, j.natAbs ≤ 10 ^ 9 + (m + 1) → Th (m + 1) 1 (.int j) := fun j h => h
  have ts : ∀ z : Str, z.length ≤ 30 → Th (m + 1) 1 (.str z) := fun z h => by
    show z.length ≤ 30 * 4 ^ (m + 1)
    have := Nat.pow_pos (n := m + 1) (show 0 < 4 by decide)
    omega
  refine ⟨⟨by decide, by decide⟩, ⟨by decide, by decide⟩, ⟨by decide, by decide⟩, ⟨by decide, by decide⟩, by omega, hlog, by omega, by omega, by omega, pick_all (Th (m + 1) 1) (by simp) (by simp) ?_ hs (by omega) fun d s1 hd h1 => ⟨rfl, ?_⟩⟩
  · intro y hy
    simp only [List.mem_cons, List.not_mem_nil, or_false] at hy
    have l1 := int_text_len hb (by decide)
    rcases hy with rfl | rfl | rfl | rfl | rfl | rfl | rfl | rfl | rfl | rfl | rfl | rfl | rfl | rfl
    · exact ti _ (by omega)
    · exact ti _ (by omega)
    · exact ti _ (by omega)
    · exact ti _ (by omega)
    · exact ti _ (by omega)
    · exact ti _ (by omega)
    · exact ti _ (by omega)
    · exact ti _ (by omega)
    · exact trivial
    · exact trivial
    · exact trivial
    · exact ts _ (by omega)
    · exact ts _ (by decide)
    · refine ⟨?_, fun x hx => ?_⟩
      · have := Nat.pow_pos (n := m + 1) (show 0 < 2 by decide)
        simp only [List.length_cons, List.length_nil]
        omega
      · simp only [List.mem_cons, List.not_mem_nil, or_false] at hx
        subst hx
        show i.natAbs ≤ 10 ^ 9 + (m + 1)
        omega
  simp only [DS.wSs, DS.wS, DS.wE, DS.wEs, DS.wAs, DS.wOI, DS.wCs, DS.asK, DS.tkD, DS.avIos, DS.putOs, DS.setAll, DS.opW, DS.bindT, DS.bindTs, DS.startE, DS.mTy, DS.ex_some, DS.ex_publ, DS.ex_int, DS.ex_int2, DS.ex_tup, DS.s_add1, DS.s_add2, DS.s_add3, DS.s_add4, DS.s_sub, DS.s_mul1, DS.s_mul2, DS.s_fdiv, DS.s_mod, DS.s_pow, DS.s_neg, DS.s_cmp1, DS.s_cmp2, DS.s_eq, DS.s_isN, DS.s_in1, DS.s_in2, DS.s_in3, DS.s_in4, DS.s_idx1, DS.s_idx2, DS.s_idx3, DS.s_idx4, DS.s_slc1, DS.s_slc2, DS.s_slc3, DS.s_slc4, DS.s_rev, DS.s_len1, DS.s_len2, DS.s_len3, DS.s_len4, DS.s_len5, DS.s_list1, DS.s_list2, DS.s_list3, DS.s_tuple1, DS.s_tuple2, DS.s_dict1, DS.s_dict2, DS.s_max2, DS.s_min2, DS.s_abs, DS.s_isi, DS.s_sum, DS.s_join, DS.s_upper, DS.s_items, DS.s_vals, DS.s_all, DS.s_str1, DS.s_str2, DS.s_str3, DS.s_int1, DS.s_int2, DS.s_get1, DS.s_get2, DS.s_dct0, DS.s_fz1, DS.s_fz2, DS.s_fz3, DS.s_bf1, DS.s_bf2, DS.s_bf3, DS.s_tr0, DS.s_tr1, DS.s_tr2, DS.s_tr3, DS.s_tr4, DS.s_tr5, DS.s_tr6, DS.s_av0, DS.s_av1, DS.s_av2, DS.s_ag0, DS.s_ag1, DS.s_ag2, DS.s_ty1, DS.s_ty2, DS.s_ty3, DS.s_ix0, DS.s_at0, DS.ex_cons, DS.s_dep1, DS.s_dep2, DS.s_dep3, DS.s_key1, DS.s_key2, DS.s_key3, DS.s_ot0, DS.ex_one, DS.s_ot1, DS.s_sq1, DS.s_sq2, DS.s_sq3, DS.s_sq4, DS.s_rg1, DS.s_rg2, DS.s_en, DS.s_it, DS.s_vl, List.map_cons, List.map_nil, List.cons_append, List.nil_append, List.length_cons, List.length_nil, List.replicate, Nat.add_one_sub_one, Nat.reduceAdd, Nat.reduceSub, List.append_nil, List.getElem?_cons_zero, List.getElem?_cons_succ, List.set_cons_zero, List.set_cons_succ, Option.map_some, Option.some.injEq, exists_eq_left', exists_eq', exists_eq_left, DS.O.pu.injEq, DS.O.fl.injEq, DS.O.fd.injEq, DS.wipeE, DS.backE, Option.getD_some, Option.getD_none, DS.D.bl.injEq, true_and, and_true, if_true, if_false, reduceCtorEq, Bool.false_eq_true, List.nodup_nil, List.nodup_cons, List.not_mem_nil, not_false_eq_true, exists_const, DS.s_at20, DS.s_at21, DS.s_at30, DS.s_at31, DS.s_at32, DS.s_revt, DS.p_non, DS.i_int_non, DS.i_bool_non, DS.i_str_non, DS.i_tuple_non, DS.i_list_non, DS.i_dict_non, DS.i_lt_non, DS.p_bl, DS.i_int_bl, DS.i_bool_bl, DS.i_str_bl, DS.i_tuple_bl, DS.i_list_bl, DS.i_dict_bl, DS.i_lt_bl, DS.p_int, DS.i_int_int, DS.i_bool_int, DS.i_str_int, DS.i_tuple_int, DS.i_list_int, DS.i_dict_int, DS.i_lt_int, DS.p_str, DS.i_int_str, DS.i_bool_str, DS.i_str_str, DS.i_tuple_str, DS.i_list_str, DS.i_dict_str, DS.i_lt_str, DS.p_lst, DS.i_int_lst, DS.i_bool_lst, DS.i_str_lst, DS.i_tuple_lst, DS.i_list_lst, DS.i_dict_lst, DS.i_lt_lst, DS.p_tup, DS.i_int_tup, DS.i_bool_tup, DS.i_str_tup, DS.i_tuple_tup, DS.i_list_tup, DS.i_dict_tup, DS.i_lt_tup, DS.p_dct, DS.i_int_dct, DS.i_bool_dct, DS.i_str_dct, DS.i_tuple_dct, DS.i_list_dct, DS.i_dict_dct, DS.i_lt_dct, DS.ite_tt, DS.ite_ff, Bool.not_true, Bool.not_false, true_and]
  exact hk d s1 hd h1
theorem th_str {m k : Nat} {z : Str} : Th m k (.str z) = (z.length ≤ 30 * 4 ^ m) := by cases k <;> rfl
theorem th_int {m k : Nat} {i : Int} : Th m k (.int i) = (i.natAbs ≤ 10 ^ 9 + m) := by cases k <;> rfl
theorem th_ups {m k j : Nat} {d : D} (h : Th m k d) : Th m (k + j) d := by
  induction j with
  | zero => exact h
  | succ j ih => exact ih.up
theorem th_one {m k : Nat} {d : D} (h : Th m 1 d) : Th m (k + 1) d := by rw [Nat.add_comm]; exact th_ups h
theorem th_s {m k : Nat} {z : Str} (h : z.length ≤ 30) : Th m k (.str z) := by
  rw [th_str]
  have := Nat.pow_pos (n := m) (show 0 < 4 by decide)
  omega
theorem th_tup {m k : Nat} {xs : List D} (h : xs.length ≤ 5) (h2 : ∀ x ∈ xs, Th m k x) : Th m (k + 1) (.tup xs) := ⟨by have := Nat.pow_pos (n := m) (show 0 < 2 by decide); omega, h2⟩
theorem th_lst {m k : Nat} {xs : List D} (h : xs.length ≤ 5) (h2 : ∀ x ∈ xs, Th m k x) : Th m (k + 1) (.lst xs) := ⟨by have := Nat.pow_pos (n := m) (show 0 < 2 by decide); omega, h2⟩
theorem last_pick {m k : Nat} {s : List D} {n : Nat} (hs : Stt n s) (hn : n < 10 ^ 15) {K : O → List O → Prop} {R : Xp → List O → Prop} (hk : ∀ y s', Th m (k + 1) y → Stt (n + 1) s' → K (.pu y) [.fl s']) :
    fsPick [.fl s, .pu (.lst [.non, .str "a", .str "abcdef", .str "abcdefg", .int 0, .int 1, .bl true, .tup [], .tup [.str "a"], .lst [], .lst [.str "a"], .dct []])] K R := by
  refine pick_all (Th m (k + 1)) (by simp) (by simp) ?_ hs hn hk
  intro y hy
  simp only [List.mem_cons, List.not_mem_nil, or_false] at hy
  have ha : Th m k (.str "a") := th_s (by decide)
  rcases hy with rfl | rfl | rfl | rfl | rfl | rfl | rfl | rfl | rfl | rfl | rfl | rfl
  · exact trivial
  · exact th_s (by decide)
  · exact th_s (by decide)
  · exact th_s (by decide)
  · exact Nat.le_trans (show (0 : Int).natAbs ≤ 10 ^ 9 by decide) (Nat.le_add_right _ _)
  · exact Nat.le_trans (show (1 : Int).natAbs ≤ 10 ^ 9 by decide) (Nat.le_add_right _ _)
  · exact trivial
  · exact th_tup (by decide) fun x hx => by cases hx
  · exact th_tup (by decide) fun x hx => by simp at hx; subst hx; exact ha
  · exact th_lst (by decide) fun x hx => by cases hx
  · exact th_lst (by decide) fun x hx => by simp at hx; subst hx; exact ha
  · exact fun x hx => by cases hx
def fsNo : FS := fun _ _ _ => False
def fsBent (r : Nat) : FS := fun args K R => ∃ (s : List D) (n m k : Nat) (d : D), args = [.fl s, .pu d] ∧ m ≤ 4 ∧ k ≤ r ∧ k ≤ 6 ∧ Th m k d ∧ Stt n s ∧ n + 10 * r < 10 ^ 13 ∧ ∀ (y : D) s', Th (m + 1) (k + 1) y → Stt (n + 10 * r + 10) s' → K (.pu y) [.fl s']
end K01
namespace K01
open PySem PySem.Spec PyProof.Rows L2 DS
def bRest : List S := [.ifs (.op (.isi ["tuple"]) [.io 1]) [.set 2 (.call 5 [.io 0, .op .add [.op .len [.io 1], .con (.int 1)]]),
    .set 3 (.op .lst [.op .add [.slc (.io 1) [] [.var 2], .slc (.io 1) [.op .add [.io 2, .con (.int 1)]] []], .op .add [.io 1, .slc (.io 1) [.var 2] [.op .add [.io 2, .con (.int 1)]]], .op .rev [.io 1], .op .listOf [.io 1], .op .tup [.var 1], .op .tup []]),
    .ret (.call 6 [.io 0, .op .add [.io 3, .op .lst [.op .add [.slc (.io 1) [.con (.int 1)] [], .slc (.io 1) [] [.con (.int 1)]], .op .dictOf [.op .lst [.op .tup [.con (.int 0), .var 1]]]]]])] [],
    .ifs (.op (.isi ["str"]) [.io 1]) [.ret (.call 11 [.io 0, .var 1])] [],
    .ifs (.andE (.op (.isi ["int"]) [.io 1]) (.notE (.op (.isi ["bool"]) [.io 1]))) [.ret (.call 12 [.io 0, .var 1])] [],
    .ret (.call 6 [.io 0, .op .lst [.con .non, .con (.str "a"), .con (.str "abcdef"), .con (.str "abcdefg"), .con (.int 0), .con (.int 1), .con (.bl true), .op .tup [], .op .tup [.con (.str "a")], .op .lst [], .op .lst [.con (.str "a")], .op .dct []]])]
def fB (rr : Nat) : Fn := ⟨4, 2, [0], .ifs (.andE (.op (.isi ["tuple"]) [.io 1]) (.andE (.op .ne [.io 1, .op .tup []]) (.op .gt [.call 5 [.io 0, .con (.int 4)], .con (.int 0)]))) [.set 2 (.call 5 [.io 0, .op .len [.io 1]]),
    .ret (.op .add [.op .add [.slc (.io 1) [] [.var 2], .op .tup [.call (rr) [.io 0, .op .idx [.io 1, .io 2]]]], .slc (.io 1) [.op .add [.io 2, .con (.int 1)]] []])] [] :: bRest⟩
theorem fB_eq (rr : Nat) : fn17 rr = fB rr := rfl
theorem th_of {m k : Nat} {xs : List D} (h : xs.length ≤ 5 * 2 ^ m) (h2 : ∀ x ∈ xs, Th m k x) : Th m (k + 1) (.tup xs) := ⟨h, h2⟩
theorem rest_tup {Γ : Gam} (h5 : Γ 5 = fsDraw) (h6 : Γ 6 = fsPick) {s : List D} {n m k : Nat} {xs : List D} (hm : m ≤ 4) (hl : xs.length ≤ 5 * 2 ^ m) (hx : ∀ x ∈ xs, Th m k x) (hs : Stt n s) (hn : n < 10 ^ 14) {nx : Ev → Prop} {rt : O → Ev → Prop} {bk ct : Ev → Prop} {R : Xp → Ev → Prop}
    (hk : ∀ (y : D) s' x2 x3, Th (m + 1) (k + 2) y → Stt (n + 2) s' → rt (.pu y) [some (.fl s'), some (.pu (.tup xs)), x2, x3]) : wSs Γ bRest [some (.fl s), some (.pu (.tup xs)), none, none] ⟨nx, rt, bk, ct⟩ R := by
  have hz := sizeLine_eq
  have h2 : 2 ^ m ≤ 2 ^ 4 := Nat.pow_le_pow_right (by decide) hm
  have h21 := p2 m
  unfold bRest
  simp only [DS.wSs, DS.wS, DS.wE, DS.wEs, DS.wAs, DS.wOI, DS.wCs, DS.asK, DS.tkD, DS.avIos, DS.putOs, DS.setAll, DS.opW, DS.bindT, DS.bindTs, DS.startE, DS.mTy, DS.ex_some, DS.ex_publ, DS.ex_int, DS.ex_int2, DS.ex_tup, DS.s_add1, DS.s_add2, DS.s_add3, DS.s_add4, DS.s_sub, DS.s_mul1, DS.s_mul2, DS.s_fdiv, DS.s_mod, DS.s_pow, DS.s_neg, DS.s_cmp1, DS.s_cmp2, DS.s_eq, DS.s_isN, DS.s_in1, DS.s_in2, DS.s_in3, DS.s_in4, DS.s_idx1, DS.s_idx2, DS.s_idx3, DS.s_idx4, DS.s_slc1, DS.s_slc2, DS.s_slc3, DS.s_slc4, DS.s_rev, DS.s_len1, DS.s_len2, DS.s_len3, DS.s_len4, DS.s_len5, DS.s_list1, DS.s_list2, DS.s_list3, DS.s_tuple1, DS.s_tuple2, DS.s_dict1, DS.s_dict2, DS.s_max2, DS.s_min2, DS.s_abs, DS.s_isi, DS.s_sum, DS.s_join, DS.s_upper, DS.s_items, DS.s_vals, DS.s_all, DS.s_str1, DS.s_str2, DS.s_str3, DS.s_int1, DS.s_int2, DS.s_get1, DS.s_get2, DS.s_dct0, DS.s_fz1, DS.s_fz2, DS.s_fz3, DS.s_bf1, DS.s_bf2, DS.s_bf3, DS.s_tr0, DS.s_tr1, DS.s_tr2, DS.s_tr3, DS.s_tr4, DS.s_tr5, DS.s_tr6, DS.s_av0, DS.s_av1, DS.s_av2, DS.s_ag0, DS.s_ag1, DS.s_ag2, DS.s_ty1, DS.s_ty2, DS.s_ty3, DS.s_ix0, DS.s_at0, DS.ex_cons, DS.s_dep1, DS.s_dep2, DS.s_dep3, DS.s_key1, DS.s_key2, DS.s_key3, DS.s_ot0, DS.ex_one, DS.s_ot1, DS.s_sq1, DS.s_sq2, DS.s_sq3, DS.s_sq4, DS.s_rg1, DS.s_rg2, DS.s_en, DS.s_it, DS.s_vl, List.map_cons, List.map_nil, List.cons_append, List.nil_append, List.length_cons, List.length_nil, List.replicate, Nat.add_one_sub_one, Nat.reduceAdd, Nat.reduceSub, List.append_nil, List.getElem?_cons_zero, List.getElem?_cons_succ, List.set_cons_zero, List.set_cons_succ, Option.map_some, Option.some.injEq, exists_eq_left', exists_eq', exists_eq_left, DS.O.pu.injEq, DS.O.fl.injEq, DS.O.fd.injEq, DS.wipeE, DS.backE, Option.getD_some, Option.getD_none, DS.D.bl.injEq, true_and, and_true, if_true, if_false, reduceCtorEq, Bool.false_eq_true, List.nodup_nil, List.nodup_cons, List.not_mem_nil, not_false_eq_true, exists_const, DS.s_at20, DS.s_at21, DS.s_at30, DS.s_at31, DS.s_at32, DS.s_revt, DS.p_non, DS.i_int_non, DS.i_bool_non, DS.i_str_non, DS.i_tuple_non, DS.i_list_non, DS.i_dict_non, DS.i_lt_non, DS.p_bl, DS.i_int_bl, DS.i_bool_bl, DS.i_str_bl, DS.i_tuple_bl, DS.i_list_bl, DS.i_dict_bl, DS.i_lt_bl, DS.p_int, DS.i_int_int, DS.i_bool_int, DS.i_str_int, DS.i_tuple_int, DS.i_list_int, DS.i_dict_int, DS.i_lt_int, DS.p_str, DS.i_int_str, DS.i_bool_str, DS.i_str_str, DS.i_tuple_str, DS.i_list_str, DS.i_dict_str, DS.i_lt_str, DS.p_lst, DS.i_int_lst, DS.i_bool_lst, DS.i_str_lst, DS.i_tuple_lst, DS.i_list_lst, DS.i_dict_lst, DS.i_lt_lst, DS.p_tup, DS.i_int_tup, DS.i_bool_tup, DS.i_str_tup, DS.i_tuple_tup, DS.i_list_tup, DS.i_dict_tup, DS.i_lt_tup, DS.p_dct, DS.i_int_dct, DS.i_bool_dct, DS.i_str_dct, DS.i_tuple_dct, DS.i_list_dct, DS.i_dict_dct, DS.i_lt_dct, DS.ite_tt, DS.ite_ff, Bool.not_true, Bool.not_false, true_and, h5]
  refine ⟨s, n, _, rfl, hs, by omega, by omega, by omega, fun q s1 q0 q1 h1 => ⟨rfl, ?_⟩⟩
  have pz : ∀ {K : List (D × D) → Prop}, K [(.int 0, .tup xs)] → pairsW [.tup [.int 0, .tup xs]] [] K := by
    intro K h
    simp only [pairsW, plainK, ex_some, dput]
    first | exact h | exact ⟨_, rfl, h⟩ | exact ⟨rfl, h⟩
  simp only [DS.wSs, DS.wS, DS.wE, DS.wEs, DS.wAs, DS.wOI, DS.wCs, DS.asK, DS.tkD, DS.avIos, DS.putOs, DS.setAll, DS.opW, DS.bindT, DS.bindTs, DS.startE, DS.mTy, DS.ex_some, DS.ex_publ, DS.ex_int, DS.ex_int2, DS.ex_tup, DS.s_add1, DS.s_add2, DS.s_add3, DS.s_add4, DS.s_sub, DS.s_mul1, DS.s_mul2, DS.s_fdiv, DS.s_mod, DS.s_pow, DS.s_neg, DS.s_cmp1, DS.s_cmp2, DS.s_eq, DS.s_isN, DS.s_in1, DS.s_in2, DS.s_in3, DS.s_in4, DS.s_idx1, DS.s_idx2, DS.s_idx3, DS.s_idx4, DS.s_slc1, DS.s_slc2, DS.s_slc3, DS.s_slc4, DS.s_rev, DS.s_len1, DS.s_len2, DS.s_len3, DS.s_len4, DS.s_len5, DS.s_list1, DS.s_list2, DS.s_list3, DS.s_tuple1, DS.s_tuple2, DS.s_dict1, DS.s_dict2, DS.s_max2, DS.s_min2, DS.s_abs, DS.s_isi, DS.s_sum, DS.s_join, DS.s_upper, DS.s_items, DS.s_vals, DS.s_all, DS.s_str1, DS.s_str2, DS.s_str3, DS.s_int1, DS.s_int2, DS.s_get1, DS.s_get2, DS.s_dct0, DS.s_fz1, DS.s_fz2, DS.s_fz3, DS.s_bf1, DS.s_bf2, DS.s_bf3, DS.s_tr0, DS.s_tr1, DS.s_tr2, DS.s_tr3, DS.s_tr4, DS.s_tr5, DS.s_tr6, DS.s_av0, DS.s_av1, DS.s_av2, DS.s_ag0, DS.s_ag1, DS.s_ag2, DS.s_ty1, DS.s_ty2, DS.s_ty3, DS.s_ix0, DS.s_at0, DS.ex_cons, DS.s_dep1, DS.s_dep2, DS.s_dep3, DS.s_key1, DS.s_key2, DS.s_key3, DS.s_ot0, DS.ex_one, DS.s_ot1, DS.s_sq1, DS.s_sq2, DS.s_sq3, DS.s_sq4, DS.s_rg1, DS.s_rg2, DS.s_en, DS.s_it, DS.s_vl, List.map_cons, List.map_nil, List.cons_append, List.nil_append, List.length_cons, List.length_nil, List.replicate, Nat.add_one_sub_one, Nat.reduceAdd, Nat.reduceSub, List.append_nil, List.getElem?_cons_zero, List.getElem?_cons_succ, List.set_cons_zero, List.set_cons_succ, Option.map_some, Option.some.injEq, exists_eq_left', exists_eq', exists_eq_left, DS.O.pu.injEq, DS.O.fl.injEq, DS.O.fd.injEq, DS.wipeE, DS.backE, Option.getD_some, Option.getD_none, DS.D.bl.injEq, true_and, and_true, if_true, if_false, reduceCtorEq, Bool.false_eq_true, List.nodup_nil, List.nodup_cons, List.not_mem_nil, not_false_eq_true, exists_const, DS.s_at20, DS.s_at21, DS.s_at30, DS.s_at31, DS.s_at32, DS.s_revt, DS.p_non, DS.i_int_non, DS.i_bool_non, DS.i_str_non, DS.i_tuple_non, DS.i_list_non, DS.i_dict_non, DS.i_lt_non, DS.p_bl, DS.i_int_bl, DS.i_bool_bl, DS.i_str_bl, DS.i_tuple_bl, DS.i_list_bl, DS.i_dict_bl, DS.i_lt_bl, DS.p_int, DS.i_int_int, DS.i_bool_int, DS.i_str_int, DS.i_tuple_int, DS.i_list_int, DS.i_dict_int, DS.i_lt_int, DS.p_str, DS.i_int_str, DS.i_bool_str, DS.i_str_str, DS.i_tuple_str, DS.i_list_str, DS.i_dict_str, DS.i_lt_str, DS.p_lst, DS.i_int_lst, DS.i_bool_lst, DS.i_str_lst, DS.i_tuple_lst, DS.i_list_lst, DS.i_dict_lst, DS.i_lt_lst, DS.p_tup, DS.i_int_tup, DS.i_bool_tup, DS.i_str_tup, DS.i_tuple_tup, DS.i_list_tup, DS.i_dict_tup, DS.i_lt_tup, DS.p_dct, DS.i_int_dct, DS.i_bool_dct, DS.i_str_dct, DS.i_tuple_dct, DS.i_list_dct, DS.i_dict_dct, DS.i_lt_dct, DS.ite_tt, DS.ite_ff, Bool.not_true, Bool.not_false, true_and, h6]
  have c1 := cutL_len (xs := xs) (a := none) (b := some q)
  have c2 := cutL_len (xs := xs) (a := some (q + 1)) (b := none)
  have c3 := cutL_len (xs := xs) (a := some q) (b := some (q + 1))
  have c4 := cutL_len (xs := xs) (a := some 1) (b := none)
  have c5 := cutL_len (xs := xs) (a := none) (b := some 1)
  refine ⟨by omega, by omega, by omega, by omega, by omega, by omega, by omega, by omega, pz ⟨by omega, by omega, ?_⟩⟩
  have e1 : ∀ x ∈ xs, Th (m + 1) (k + 1) x := fun x h => (hx x h).step
  have app : ∀ {ys zs : List D}, (∀ x ∈ ys, x ∈ xs) → (∀ x ∈ zs, x ∈ xs) → ys.length + zs.length ≤ 2 * xs.length → Th (m + 1) (k + 2) (.tup (ys ++ zs)) := by
    intro ys zs h1 h2 h3
    refine th_of (by rw [List.length_append]; omega) fun x h => ?_
    rcases List.mem_append.1 h with h | h
    · exact e1 x (h1 x h)
    · exact e1 x (h2 x h)
  have self : Th (m + 1) (k + 1) (.tup xs) := ⟨by omega, fun x h => (hx x h).more⟩
  refine pick_all (Th (m + 1) (k + 2)) (by simp) (by simp) ?_ h1 (by omega) fun y s2 hy h2 => ⟨rfl, ?_⟩
  · intro y hy
    simp only [List.mem_cons, List.not_mem_nil, or_false] at hy
    rcases hy with rfl | rfl | rfl | rfl | rfl | rfl | rfl | rfl
    · exact app (fun x h => cutL_mem h) (fun x h => cutL_mem h) (by omega)
    · exact app (fun x h => h) (fun x h => cutL_mem h) (by omega)
    · exact th_of (by rw [List.length_reverse]; omega) fun x h => e1 x (List.mem_reverse.1 h)
    · exact ⟨by omega, e1⟩
    · exact th_tup (by simp) fun x h => by
        simp only [List.mem_cons, List.not_mem_nil, or_false] at h
        subst h
        exact self
    · exact th_tup (by simp) fun x h => by cases h
    · exact app (fun x h => cutL_mem h) (fun x h => cutL_mem h) (by omega)
    · intro p hp
      simp only [List.mem_cons, List.not_mem_nil, or_false] at hp
      subst hp
      exact self
  simp only [DS.wSs, DS.wS, DS.wE, DS.wEs, DS.wAs, DS.wOI, DS.wCs, DS.asK, DS.tkD, DS.avIos, DS.putOs, DS.setAll, DS.opW, DS.bindT, DS.bindTs, DS.startE, DS.mTy, DS.ex_some, DS.ex_publ, DS.ex_int, DS.ex_int2, DS.ex_tup, DS.s_add1, DS.s_add2, DS.s_add3, DS.s_add4, DS.s_sub, DS.s_mul1, DS.s_mul2, DS.s_fdiv, DS.s_mod, DS.s_pow, DS.s_neg, DS.s_cmp1, DS.s_cmp2, DS.s_eq, DS.s_isN, DS.s_in1, DS.s_in2, DS.s_in3, DS.s_in4, DS.s_idx1, DS.s_idx2, DS.s_idx3, DS.s_idx4, DS.s_slc1, DS.s_slc2, DS.s_slc3, DS.s_slc4, DS.s_rev, DS.s_len1, DS.s_len2, DS.s_len3, DS.s_len4, DS.s_len5, DS.s_list1, DS.s_list2, DS.s_list3, DS.s_tuple1, DS.s_tuple2, DS.s_dict1, DS.s_dict2, DS.s_max2, DS.s_min2, DS.s_abs, DS.s_isi, DS.s_sum, DS.s_join, DS.s_upper, DS.s_items, DS.s_vals, DS.s_all, DS.s_str1, DS.s_str2, DS.s_str3, DS.s_int1, DS.s_int2, DS.s_get1, DS.s_get2, DS.s_dct0, DS.s_fz1, DS.s_fz2, DS.s_fz3, DS.s_bf1, DS.s_bf2, DS.s_bf3, DS.s_tr0, DS.s_tr1, DS.s_tr2, DS.s_tr3, DS.s_tr4, DS.s_tr5, DS.s_tr6, DS.s_av0, DS.s_av1, DS.s_av2, DS.s_ag0, DS.s_ag1, DS.s_ag2, DS.s_ty1, DS.s_ty2, DS.s_ty3, DS.s_ix0, DS.s_at0, DS.ex_cons, DS.s_dep1, DS.s_dep2, DS.s_dep3, DS.s_key1, DS.s_key2, DS.s_key3, DS.s_ot0, DS.ex_one, DS.s_ot1, DS.s_sq1, DS.s_sq2, DS.s_sq3, DS.s_sq4, DS.s_rg1, DS.s_rg2, DS.s_en, DS.s_it, DS.s_vl, List.map_cons, List.map_nil, List.cons_append, List.nil_append, List.length_cons, List.length_nil, List.replicate, Nat.add_one_sub_one, Nat.reduceAdd, Nat.reduceSub, List.append_nil, List.getElem?_cons_zero, List.getElem?_cons_succ, List.set_cons_zero, List.set_cons_succ, Option.map_some, Option.some.injEq, exists_eq_left', exists_eq', exists_eq_left, DS.O.pu.injEq, DS.O.fl.injEq, DS.O.fd.injEq, DS.wipeE, DS.backE, Option.getD_some, Option.getD_none, DS.D.bl.injEq, true_and, and_true, if_true, if_false, reduceCtorEq, Bool.false_eq_true, List.nodup_nil, List.nodup_cons, List.not_mem_nil, not_false_eq_true, exists_const, DS.s_at20, DS.s_at21, DS.s_at30, DS.s_at31, DS.s_at32, DS.s_revt, DS.p_non, DS.i_int_non, DS.i_bool_non, DS.i_str_non, DS.i_tuple_non, DS.i_list_non, DS.i_dict_non, DS.i_lt_non, DS.p_bl, DS.i_int_bl, DS.i_bool_bl, DS.i_str_bl, DS.i_tuple_bl, DS.i_list_bl, DS.i_dict_bl, DS.i_lt_bl, DS.p_int, DS.i_int_int, DS.i_bool_int, DS.i_str_int, DS.i_tuple_int, DS.i_list_int, DS.i_dict_int, DS.i_lt_int, DS.p_str, DS.i_int_str, DS.i_bool_str, DS.i_str_str, DS.i_tuple_str, DS.i_list_str, DS.i_dict_str, DS.i_lt_str, DS.p_lst, DS.i_int_lst, DS.i_bool_lst, DS.i_str_lst, DS.i_tuple_lst, DS.i_list_lst, DS.i_dict_lst, DS.i_lt_lst, DS.p_tup, DS.i_int_tup, DS.i_bool_tup, DS.i_str_tup, DS.i_tuple_tup, DS.i_list_tup, DS.i_dict_tup, DS.i_lt_tup, DS.p_dct, DS.i_int_dct, DS.i_bool_dct, DS.i_str_dct, DS.i_tuple_dct, DS.i_list_dct, DS.i_dict_dct, DS.i_lt_dct, DS.ite_tt, DS.ite_ff, Bool.not_true, Bool.not_false, true_and]
  exact hk y s2 _ _ hy h2
def fsBentT (r : Nat) : FS := fun args K R => ∃ (s : List D) (n m k : Nat) (xs : List D), args = [.fl s, .pu (.tup xs)] ∧ m ≤ 4 ∧ k ≤ r ∧ k ≤ 6 ∧ Th m k (.tup xs) ∧ Stt n s ∧ n + 10 * r < 10 ^ 13 ∧ ∀ (y : D) s', Th (m + 1) (k + 1) y → Stt (n + 10 * r + 10) s' → K (.pu y) [.fl s']
theorem okBt {Γ : Gam} {j r : Nat} (hj : Γ j = if r = 0 then fsNo else fsBent (r - 1)) (h5 : Γ 5 = fsDraw) (h6 : Γ 6 = fsPick) : Fn.Ok Γ (fn17 j) (fsBentT r) := by
  rintro args K R ⟨s, n, m, k, xs, rfl, hm, hkr, hk6, hd, hs, hn, hk⟩
  refine ⟨rfl, ?_⟩
  have hz := sizeLine_eq
  cases k with
  | zero => exact hd.elim
  | succ k =>
  obtain ⟨hl, hx⟩ := hd
  have h2 : 2 ^ m ≤ 2 ^ 4 := Nat.pow_le_pow_right (by decide) hm
  rw [fB_eq]
  unfold fB
  have hdep : depD (.tup xs) ≤ 8 := by
    have := Th.dep (m := m) (k := k + 1) (d := .tup xs) ⟨hl, hx⟩
    omega
  have tail : ∀ {s : List D} {n' : Nat}, Stt n' s → n' ≤ n + 1 → wSs Γ bRest [some (.fl s), some (.pu (.tup xs)), none, none] ⟨fun e => ∃ os, outsOf [0] e = some os ∧ K (.pu .non) os, fun o e => ∃ os, outsOf [0] e = some os ∧ K o os, fun _ => False, fun _ => False⟩ (fun x e => ∃ os, outsOf [0] e = some os ∧ R x os) := by
    intro s n' h1 h2
    refine rest_tup h5 h6 hm hl hx h1 (by omega) fun y s' x2 x3 hy h3 => ?_
    simp only [DS.wSs, DS.wS, DS.wE, DS.wEs, DS.wAs, DS.wOI, DS.wCs, DS.asK, DS.tkD, DS.avIos, DS.putOs, DS.setAll, DS.opW, DS.bindT, DS.bindTs, DS.startE, DS.mTy, DS.ex_some, DS.ex_publ, DS.ex_int, DS.ex_int2, DS.ex_tup, DS.s_add1, DS.s_add2, DS.s_add3, DS.s_add4, DS.s_sub, DS.s_mul1, DS.s_mul2, DS.s_fdiv, DS.s_mod, DS.s_pow, DS.s_neg, DS.s_cmp1, DS.s_cmp2, DS.s_eq, DS.s_isN, DS.s_in1, DS.s_in2, DS.s_in3, DS.s_in4, DS.s_idx1, DS.s_idx2, DS.s_idx3, DS.s_idx4, DS.s_slc1, DS.s_slc2, DS.s_slc3, DS.s_slc4, DS.s_rev, DS.s_len1, DS.s_len2, DS.s_len3, DS.s_len4, DS.s_len5, DS.s_list1, DS.s_list2, DS.s_list3, DS.s_tuple1, DS.s_tuple2, DS.s_dict1, DS.s_dict2, DS.s_max2, DS.s_min2, DS.s_abs, DS.s_isi, DS.s_sum, DS.s_join, DS.s_upper, DS.s_items, DS.s_vals, DS.s_all, DS.s_str1, DS.s_str2, DS.s_str3, DS.s_int1, DS.s_int2, DS.s_get1, DS.s_get2, DS.s_dct0, DS.s_fz1, DS.s_fz2, DS.s_fz3, DS.s_bf1, DS.s_bf2, DS.s_bf3, DS.s_tr0, DS.s_tr1, DS.s_tr2, DS.s_tr3, DS.s_tr4, DS.s_tr5, DS.s_tr6, DS.s_av0, DS.s_av1, DS.s_av2, DS.s_ag0, DS.s_ag1, DS.s_ag2, DS.s_ty1, DS.s_ty2, DS.s_ty3, DS.s_ix0, DS.s_at0, DS.ex_cons, DS.s_dep1, DS.s_dep2, DS.s_dep3, DS.s_key1, DS.s_key2, DS.s_key3, DS.s_ot0, DS.ex_one, DS.s_ot1, DS.s_sq1, DS.s_sq2, DS.s_sq3, DS.s_sq4, DS.s_rg1, DS.s_rg2, DS.s_en, DS.s_it, DS.s_vl, List.map_cons, List.map_nil, List.cons_append, List.nil_append, List.length_cons, List.length_nil, List.replicate, Nat.add_one_sub_one, Nat.reduceAdd, Nat.reduceSub, List.append_nil, List.getElem?_cons_zero, List.getElem?_cons_succ, List.set_cons_zero, List.set_cons_succ, Option.map_some, Option.some.injEq, exists_eq_left', exists_eq', exists_eq_left, DS.O.pu.injEq, DS.O.fl.injEq, DS.O.fd.injEq, DS.wipeE, DS.backE, Option.getD_some, Option.getD_none, DS.D.bl.injEq, true_and, and_true, if_true, if_false, reduceCtorEq, Bool.false_eq_true, List.nodup_nil, List.nodup_cons, List.not_mem_nil, not_false_eq_true, exists_const, DS.s_at20, DS.s_at21, DS.s_at30, DS.s_at31, DS.s_at32, DS.s_revt, DS.p_non, DS.i_int_non, DS.i_bool_non, DS.i_str_non, DS.i_tuple_non, DS.i_list_non, DS.i_dict_non, DS.i_lt_non, DS.p_bl, DS.i_int_bl, DS.i_bool_bl, DS.i_str_bl, DS.i_tuple_bl, DS.i_list_bl, DS.i_dict_bl, DS.i_lt_bl, DS.p_int, DS.i_int_int, DS.i_bool_int, DS.i_str_int, DS.i_tuple_int, DS.i_list_int, DS.i_dict_int, DS.i_lt_int, DS.p_str, DS.i_int_str, DS.i_bool_str, DS.i_str_str, DS.i_tuple_str, DS.i_list_str, DS.i_dict_str, DS.i_lt_str, DS.p_lst, DS.i_int_lst, DS.i_bool_lst, DS.i_str_lst, DS.i_tuple_lst, DS.i_list_lst, DS.i_dict_lst, DS.i_lt_lst, DS.p_tup, DS.i_int_tup, DS.i_bool_tup, DS.i_str_tup, DS.i_tuple_tup, DS.i_list_tup, DS.i_dict_tup, DS.i_lt_tup, DS.p_dct, DS.i_int_dct, DS.i_bool_dct, DS.i_str_dct, DS.i_tuple_dct, DS.i_list_dct, DS.i_dict_dct, DS.i_lt_dct, DS.ite_tt, DS.ite_ff, Bool.not_true, Bool.not_false, true_and]
    exact hk y s' hy (h3.mono (by omega))
  simp only [DS.wSs, DS.wS, DS.wE, DS.wEs, DS.wAs, DS.wOI, DS.wCs, DS.asK, DS.tkD, DS.avIos, DS.putOs, DS.setAll, DS.opW, DS.bindT, DS.bindTs, DS.startE, DS.mTy, DS.ex_some, DS.ex_publ, DS.ex_int, DS.ex_int2, DS.ex_tup, DS.s_add1, DS.s_add2, DS.s_add3, DS.s_add4, DS.s_sub, DS.s_mul1, DS.s_mul2, DS.s_fdiv, DS.s_mod, DS.s_pow, DS.s_neg, DS.s_cmp1, DS.s_cmp2, DS.s_eq, DS.s_isN, DS.s_in1, DS.s_in2, DS.s_in3, DS.s_in4, DS.s_idx1, DS.s_idx2, DS.s_idx3, DS.s_idx4, DS.s_slc1, DS.s_slc2, DS.s_slc3, DS.s_slc4, DS.s_rev, DS.s_len1, DS.s_len2, DS.s_len3, DS.s_len4, DS.s_len5, DS.s_list1, DS.s_list2, DS.s_list3, DS.s_tuple1, DS.s_tuple2, DS.s_dict1, DS.s_dict2, DS.s_max2, DS.s_min2, DS.s_abs, DS.s_isi, DS.s_sum, DS.s_join, DS.s_upper, DS.s_items, DS.s_vals, DS.s_all, DS.s_str1, DS.s_str2, DS.s_str3, DS.s_int1, DS.s_int2, DS.s_get1, DS.s_get2, DS.s_dct0, DS.s_fz1, DS.s_fz2, DS.s_fz3, DS.s_bf1, DS.s_bf2, DS.s_bf3, DS.s_tr0, DS.s_tr1, DS.s_tr2, DS.s_tr3, DS.s_tr4, DS.s_tr5, DS.s_tr6, DS.s_av0, DS.s_av1, DS.s_av2, DS.s_ag0, DS.s_ag1, DS.s_ag2, DS.s_ty1, DS.s_ty2, DS.s_ty3, DS.s_ix0, DS.s_at0, DS.ex_cons, DS.s_dep1, DS.s_dep2, DS.s_dep3, DS.s_key1, DS.s_key2, DS.s_key3, DS.s_ot0, DS.ex_one, DS.s_ot1, DS.s_sq1, DS.s_sq2, DS.s_sq3, DS.s_sq4, DS.s_rg1, DS.s_rg2, DS.s_en, DS.s_it, DS.s_vl, List.map_cons, List.map_nil, List.cons_append, List.nil_append, List.length_cons, List.length_nil, List.replicate, Nat.add_one_sub_one, Nat.reduceAdd, Nat.reduceSub, List.append_nil, List.getElem?_cons_zero, List.getElem?_cons_succ, List.set_cons_zero, List.set_cons_succ, Option.map_some, Option.some.injEq, exists_eq_left', exists_eq', exists_eq_left, DS.O.pu.injEq, DS.O.fl.injEq, DS.O.fd.injEq, DS.wipeE, DS.backE, Option.getD_some, Option.getD_none, DS.D.bl.injEq, true_and, and_true, if_true, if_false, reduceCtorEq, Bool.false_eq_true, List.nodup_nil, List.nodup_cons, List.not_mem_nil, not_false_eq_true, exists_const, DS.s_at20, DS.s_at21, DS.s_at30, DS.s_at31, DS.s_at32, DS.s_revt, DS.p_non, DS.i_int_non, DS.i_bool_non, DS.i_str_non, DS.i_tuple_non, DS.i_list_non, DS.i_dict_non, DS.i_lt_non, DS.p_bl, DS.i_int_bl, DS.i_bool_bl, DS.i_str_bl, DS.i_tuple_bl, DS.i_list_bl, DS.i_dict_bl, DS.i_lt_bl, DS.p_int, DS.i_int_int, DS.i_bool_int, DS.i_str_int, DS.i_tuple_int, DS.i_list_int, DS.i_dict_int, DS.i_lt_int, DS.p_str, DS.i_int_str, DS.i_bool_str, DS.i_str_str, DS.i_tuple_str, DS.i_list_str, DS.i_dict_str, DS.i_lt_str, DS.p_lst, DS.i_int_lst, DS.i_bool_lst, DS.i_str_lst, DS.i_tuple_lst, DS.i_list_lst, DS.i_dict_lst, DS.i_lt_lst, DS.p_tup, DS.i_int_tup, DS.i_bool_tup, DS.i_str_tup, DS.i_tuple_tup, DS.i_list_tup, DS.i_dict_tup, DS.i_lt_tup, DS.p_dct, DS.i_int_dct, DS.i_bool_dct, DS.i_str_dct, DS.i_tuple_dct, DS.i_list_dct, DS.i_dict_dct, DS.i_lt_dct, DS.ite_tt, DS.ite_ff, Bool.not_true, Bool.not_false, true_and, h5]
  refine ⟨by omega, ⟨?_, hdep⟩, ?_⟩
  · cases xs <;> simp [comp, comps]
  by_cases he : xs = []
  · subst he
    have e3 : (deq (D.tup []) (D.tup []) == false) = false := rfl
    simp only [e3, DS.wSs, DS.wS, DS.wE, DS.wEs, DS.wAs, DS.wOI, DS.wCs, DS.asK, DS.tkD, DS.avIos, DS.putOs, DS.setAll, DS.opW, DS.bindT, DS.bindTs, DS.startE, DS.mTy, DS.ex_some, DS.ex_publ, DS.ex_int, DS.ex_int2, DS.ex_tup, DS.s_add1, DS.s_add2, DS.s_add3, DS.s_add4, DS.s_sub, DS.s_mul1, DS.s_mul2, DS.s_fdiv, DS.s_mod, DS.s_pow, DS.s_neg, DS.s_cmp1, DS.s_cmp2, DS.s_eq, DS.s_isN, DS.s_in1, DS.s_in2, DS.s_in3, DS.s_in4, DS.s_idx1, DS.s_idx2, DS.s_idx3, DS.s_idx4, DS.s_slc1, DS.s_slc2, DS.s_slc3, DS.s_slc4, DS.s_rev, DS.s_len1, DS.s_len2, DS.s_len3, DS.s_len4, DS.s_len5, DS.s_list1, DS.s_list2, DS.s_list3, DS.s_tuple1, DS.s_tuple2, DS.s_dict1, DS.s_dict2, DS.s_max2, DS.s_min2, DS.s_abs, DS.s_isi, DS.s_sum, DS.s_join, DS.s_upper, DS.s_items, DS.s_vals, DS.s_all, DS.s_str1, DS.s_str2, DS.s_str3, DS.s_int1, DS.s_int2, DS.s_get1, DS.s_get2, DS.s_dct0, DS.s_fz1, DS.s_fz2, DS.s_fz3, DS.s_bf1, DS.s_bf2, DS.s_bf3, DS.s_tr0, DS.s_tr1, DS.s_tr2, DS.s_tr3, DS.s_tr4, DS.s_tr5, DS.s_tr6, DS.s_av0, DS.s_av1, DS.s_av2, DS.s_ag0, DS.s_ag1, DS.s_ag2, DS.s_ty1, DS.s_ty2, DS.s_ty3, DS.s_ix0, DS.s_at0, DS.ex_cons, DS.s_dep1, DS.s_dep2, DS.s_dep3, DS.s_key1, DS.s_key2, DS.s_key3, DS.s_ot0, DS.ex_one, DS.s_ot1, DS.s_sq1, DS.s_sq2, DS.s_sq3, DS.s_sq4, DS.s_rg1, DS.s_rg2, DS.s_en, DS.s_it, DS.s_vl, List.map_cons, List.map_nil, List.cons_append, List.nil_append, List.length_cons, List.length_nil, List.replicate, Nat.add_one_sub_one, Nat.reduceAdd, Nat.reduceSub, List.append_nil, List.getElem?_cons_zero, List.getElem?_cons_succ, List.set_cons_zero, List.set_cons_succ, Option.map_some, Option.some.injEq, exists_eq_left', exists_eq', exists_eq_left, DS.O.pu.injEq, DS.O.fl.injEq, DS.O.fd.injEq, DS.wipeE, DS.backE, Option.getD_some, Option.getD_none, DS.D.bl.injEq, true_and, and_true, if_true, if_false, reduceCtorEq, Bool.false_eq_true, List.nodup_nil, List.nodup_cons, List.not_mem_nil, not_false_eq_true, exists_const, DS.s_at20, DS.s_at21, DS.s_at30, DS.s_at31, DS.s_at32, DS.s_revt, DS.p_non, DS.i_int_non, DS.i_bool_non, DS.i_str_non, DS.i_tuple_non, DS.i_list_non, DS.i_dict_non, DS.i_lt_non, DS.p_bl, DS.i_int_bl, DS.i_bool_bl, DS.i_str_bl, DS.i_tuple_bl, DS.i_list_bl, DS.i_dict_bl, DS.i_lt_bl, DS.p_int, DS.i_int_int, DS.i_bool_int, DS.i_str_int, DS.i_tuple_int, DS.i_list_int, DS.i_dict_int, DS.i_lt_int, DS.p_str, DS.i_int_str, DS.i_bool_str, DS.i_str_str, DS.i_tuple_str, DS.i_list_str, DS.i_dict_str, DS.i_lt_str, DS.p_lst, DS.i_int_lst, DS.i_bool_lst, DS.i_str_lst, DS.i_tuple_lst, DS.i_list_lst, DS.i_dict_lst, DS.i_lt_lst, DS.p_tup, DS.i_int_tup, DS.i_bool_tup, DS.i_str_tup, DS.i_tuple_tup, DS.i_list_tup, DS.i_dict_tup, DS.i_lt_tup, DS.p_dct, DS.i_int_dct, DS.i_bool_dct, DS.i_str_dct, DS.i_tuple_dct, DS.i_list_dct, DS.i_dict_dct, DS.i_lt_dct, DS.ite_tt, DS.ite_ff, Bool.not_true, Bool.not_false, true_and]
    exact tail hs (by omega)
  have e3 : (deq (D.tup xs) (D.tup []) == false) = true := by
    cases xs with
    | nil => exact absurd rfl he
    | cons x r => rfl
  simp only [e3, DS.wSs, DS.wS, DS.wE, DS.wEs, DS.wAs, DS.wOI, DS.wCs, DS.asK, DS.tkD, DS.avIos, DS.putOs, DS.setAll, DS.opW, DS.bindT, DS.bindTs, DS.startE, DS.mTy, DS.ex_some, DS.ex_publ, DS.ex_int, DS.ex_int2, DS.ex_tup, DS.s_add1, DS.s_add2, DS.s_add3, DS.s_add4, DS.s_sub, DS.s_mul1, DS.s_mul2, DS.s_fdiv, DS.s_mod, DS.s_pow, DS.s_neg, DS.s_cmp1, DS.s_cmp2, DS.s_eq, DS.s_isN, DS.s_in1, DS.s_in2, DS.s_in3, DS.s_in4, DS.s_idx1, DS.s_idx2, DS.s_idx3, DS.s_idx4, DS.s_slc1, DS.s_slc2, DS.s_slc3, DS.s_slc4, DS.s_rev, DS.s_len1, DS.s_len2, DS.s_len3, DS.s_len4, DS.s_len5, DS.s_list1, DS.s_list2, DS.s_list3, DS.s_tuple1, DS.s_tuple2, DS.s_dict1, DS.s_dict2, DS.s_max2, DS.s_min2, DS.s_abs, DS.s_isi, DS.s_sum, DS.s_join, DS.s_upper, DS.s_items, DS.s_vals, DS.s_all, DS.s_str1, DS.s_str2, DS.s_str3, DS.s_int1, DS.s_int2, DS.s_get1, DS.s_get2, DS.s_dct0, DS.s_fz1, DS.s_fz2, DS.s_fz3, DS.s_bf1, DS.s_bf2, DS.s_bf3, DS.s_tr0, DS.s_tr1, DS.s_tr2, DS.s_tr3, DS.s_tr4, DS.s_tr5, DS.s_tr6, DS.s_av0, DS.s_av1, DS.s_av2, DS.s_ag0, DS.s_ag1, DS.s_ag2, DS.s_ty1, DS.s_ty2, DS.s_ty3, DS.s_ix0, DS.s_at0, DS.ex_cons, DS.s_dep1, DS.s_dep2, DS.s_dep3, DS.s_key1, DS.s_key2, DS.s_key3, DS.s_ot0, DS.ex_one, DS.s_ot1, DS.s_sq1, DS.s_sq2, DS.s_sq3, DS.s_sq4, DS.s_rg1, DS.s_rg2, DS.s_en, DS.s_it, DS.s_vl, List.map_cons, List.map_nil, List.cons_append, List.nil_append, List.length_cons, List.length_nil, List.replicate, Nat.add_one_sub_one, Nat.reduceAdd, Nat.reduceSub, List.append_nil, List.getElem?_cons_zero, List.getElem?_cons_succ, List.set_cons_zero, List.set_cons_succ, Option.map_some, Option.some.injEq, exists_eq_left', exists_eq', exists_eq_left, DS.O.pu.injEq, DS.O.fl.injEq, DS.O.fd.injEq, DS.wipeE, DS.backE, Option.getD_some, Option.getD_none, DS.D.bl.injEq, true_and, and_true, if_true, if_false, reduceCtorEq, Bool.false_eq_true, List.nodup_nil, List.nodup_cons, List.not_mem_nil, not_false_eq_true, exists_const, DS.s_at20, DS.s_at21, DS.s_at30, DS.s_at31, DS.s_at32, DS.s_revt, DS.p_non, DS.i_int_non, DS.i_bool_non, DS.i_str_non, DS.i_tuple_non, DS.i_list_non, DS.i_dict_non, DS.i_lt_non, DS.p_bl, DS.i_int_bl, DS.i_bool_bl, DS.i_str_bl, DS.i_tuple_bl, DS.i_list_bl, DS.i_dict_bl, DS.i_lt_bl, DS.p_int, DS.i_int_int, DS.i_bool_int, DS.i_str_int, DS.i_tuple_int, DS.i_list_int, DS.i_dict_int, DS.i_lt_int, DS.p_str, DS.i_int_str, DS.i_bool_str, DS.i_str_str, DS.i_tuple_str, DS.i_list_str, DS.i_dict_str, DS.i_lt_str, DS.p_lst, DS.i_int_lst, DS.i_bool_lst, DS.i_str_lst, DS.i_tuple_lst, DS.i_list_lst, DS.i_dict_lst, DS.i_lt_lst, DS.p_tup, DS.i_int_tup, DS.i_bool_tup, DS.i_str_tup, DS.i_tuple_tup, DS.i_list_tup, DS.i_dict_tup, DS.i_lt_tup, DS.p_dct, DS.i_int_dct, DS.i_bool_dct, DS.i_str_dct, DS.i_tuple_dct, DS.i_list_dct, DS.i_dict_dct, DS.i_lt_dct, DS.ite_tt, DS.ite_ff, Bool.not_true, Bool.not_false, true_and]
  have hpos : 0 < xs.length := List.length_pos_iff.2 he
  refine ⟨s, n, 4, rfl, hs, by omega, by omega, by omega, fun g s1 g0 g1 h1 => ⟨rfl, ?_⟩⟩
  simp only [DS.wSs, DS.wS, DS.wE, DS.wEs, DS.wAs, DS.wOI, DS.wCs, DS.asK, DS.tkD, DS.avIos, DS.putOs, DS.setAll, DS.opW, DS.bindT, DS.bindTs, DS.startE, DS.mTy, DS.ex_some, DS.ex_publ, DS.ex_int, DS.ex_int2, DS.ex_tup, DS.s_add1, DS.s_add2, DS.s_add3, DS.s_add4, DS.s_sub, DS.s_mul1, DS.s_mul2, DS.s_fdiv, DS.s_mod, DS.s_pow, DS.s_neg, DS.s_cmp1, DS.s_cmp2, DS.s_eq, DS.s_isN, DS.s_in1, DS.s_in2, DS.s_in3, DS.s_in4, DS.s_idx1, DS.s_idx2, DS.s_idx3, DS.s_idx4, DS.s_slc1, DS.s_slc2, DS.s_slc3, DS.s_slc4, DS.s_rev, DS.s_len1, DS.s_len2, DS.s_len3, DS.s_len4, DS.s_len5, DS.s_list1, DS.s_list2, DS.s_list3, DS.s_tuple1, DS.s_tuple2, DS.s_dict1, DS.s_dict2, DS.s_max2, DS.s_min2, DS.s_abs, DS.s_isi, DS.s_sum, DS.s_join, DS.s_upper, DS.s_items, DS.s_vals, DS.s_all, DS.s_str1, DS.s_str2, DS.s_str3, DS.s_int1, DS.s_int2, DS.s_get1, DS.s_get2, DS.s_dct0, DS.s_fz1, DS.s_fz2, DS.s_fz3, DS.s_bf1, DS.s_bf2, DS.s_bf3, DS.s_tr0, DS.s_tr1, DS.s_tr2, DS.s_tr3, DS.s_tr4, DS.s_tr5, DS.s_tr6, DS.s_av0, DS.s_av1, DS.s_av2, DS.s_ag0, DS.s_ag1, DS.s_ag2, DS.s_ty1, DS.s_ty2, DS.s_ty3, DS.s_ix0, DS.s_at0, DS.ex_cons, DS.s_dep1, DS.s_dep2, DS.s_dep3, DS.s_key1, DS.s_key2, DS.s_key3, DS.s_ot0, DS.ex_one, DS.s_ot1, DS.s_sq1, DS.s_sq2, DS.s_sq3, DS.s_sq4, DS.s_rg1, DS.s_rg2, DS.s_en, DS.s_it, DS.s_vl, List.map_cons, List.map_nil, List.cons_append, List.nil_append, List.length_cons, List.length_nil, List.replicate, Nat.add_one_sub_one, Nat.reduceAdd, Nat.reduceSub, List.append_nil, List.getElem?_cons_zero, List.getElem?_cons_succ, List.set_cons_zero, List.set_cons_succ, Option.map_some, Option.some.injEq, exists_eq_left', exists_eq', exists_eq_left, DS.O.pu.injEq, DS.O.fl.injEq, DS.O.fd.injEq, DS.wipeE, DS.backE, Option.getD_some, Option.getD_none, DS.D.bl.injEq, true_and, and_true, if_true, if_false, reduceCtorEq, Bool.false_eq_true, List.nodup_nil, List.nodup_cons, List.not_mem_nil, not_false_eq_true, exists_const, DS.s_at20, DS.s_at21, DS.s_at30, DS.s_at31, DS.s_at32, DS.s_revt, DS.p_non, DS.i_int_non, DS.i_bool_non, DS.i_str_non, DS.i_tuple_non, DS.i_list_non, DS.i_dict_non, DS.i_lt_non, DS.p_bl, DS.i_int_bl, DS.i_bool_bl, DS.i_str_bl, DS.i_tuple_bl, DS.i_list_bl, DS.i_dict_bl, DS.i_lt_bl, DS.p_int, DS.i_int_int, DS.i_bool_int, DS.i_str_int, DS.i_tuple_int, DS.i_list_int, DS.i_dict_int, DS.i_lt_int, DS.p_str, DS.i_int_str, DS.i_bool_str, DS.i_str_str, DS.i_tuple_str, DS.i_list_str, DS.i_dict_str, DS.i_lt_str, DS.p_lst, DS.i_int_lst, DS.i_bool_lst, DS.i_str_lst, DS.i_tuple_lst, DS.i_list_lst, DS.i_dict_lst, DS.i_lt_lst, DS.p_tup, DS.i_int_tup, DS.i_bool_tup, DS.i_str_tup, DS.i_tuple_tup, DS.i_list_tup, DS.i_dict_tup, DS.i_lt_tup, DS.p_dct, DS.i_int_dct, DS.i_bool_dct, DS.i_str_dct, DS.i_tuple_dct, DS.i_list_dct, DS.i_dict_dct, DS.i_lt_dct, DS.ite_tt, DS.ite_ff, Bool.not_true, Bool.not_false, true_and]
  by_cases hg : 0 < g
  · rw [if_pos (by simpa using hg)]
    refine ⟨s1, n + 1, _, rfl, h1, by omega, by omega, by omega, fun q s2 q0 q1 h2' => ⟨rfl, ?_⟩⟩
    simp only [DS.wSs, DS.wS, DS.wE, DS.wEs, DS.wAs, DS.wOI, DS.wCs, DS.asK, DS.tkD, DS.avIos, DS.putOs, DS.setAll, DS.opW, DS.bindT, DS.bindTs, DS.startE, DS.mTy, DS.ex_some, DS.ex_publ, DS.ex_int, DS.ex_int2, DS.ex_tup, DS.s_add1, DS.s_add2, DS.s_add3, DS.s_add4, DS.s_sub, DS.s_mul1, DS.s_mul2, DS.s_fdiv, DS.s_mod, DS.s_pow, DS.s_neg, DS.s_cmp1, DS.s_cmp2, DS.s_eq, DS.s_isN, DS.s_in1, DS.s_in2, DS.s_in3, DS.s_in4, DS.s_idx1, DS.s_idx2, DS.s_idx3, DS.s_idx4, DS.s_slc1, DS.s_slc2, DS.s_slc3, DS.s_slc4, DS.s_rev, DS.s_len1, DS.s_len2, DS.s_len3, DS.s_len4, DS.s_len5, DS.s_list1, DS.s_list2, DS.s_list3, DS.s_tuple1, DS.s_tuple2, DS.s_dict1, DS.s_dict2, DS.s_max2, DS.s_min2, DS.s_abs, DS.s_isi, DS.s_sum, DS.s_join, DS.s_upper, DS.s_items, DS.s_vals, DS.s_all, DS.s_str1, DS.s_str2, DS.s_str3, DS.s_int1, DS.s_int2, DS.s_get1, DS.s_get2, DS.s_dct0, DS.s_fz1, DS.s_fz2, DS.s_fz3, DS.s_bf1, DS.s_bf2, DS.s_bf3, DS.s_tr0, DS.s_tr1, DS.s_tr2, DS.s_tr3, DS.s_tr4, DS.s_tr5, DS.s_tr6, DS.s_av0, DS.s_av1, DS.s_av2, DS.s_ag0, DS.s_ag1, DS.s_ag2, DS.s_ty1, DS.s_ty2, DS.s_ty3, DS.s_ix0, DS.s_at0, DS.ex_cons, DS.s_dep1, DS.s_dep2, DS.s_dep3, DS.s_key1, DS.s_key2, DS.s_key3, DS.s_ot0, DS.ex_one, DS.s_ot1, DS.s_sq1, DS.s_sq2, DS.s_sq3, DS.s_sq4, DS.s_rg1, DS.s_rg2, DS.s_en, DS.s_it, DS.s_vl, List.map_cons, List.map_nil, List.cons_append, List.nil_append, List.length_cons, List.length_nil, List.replicate, Nat.add_one_sub_one, Nat.reduceAdd, Nat.reduceSub, List.append_nil, List.getElem?_cons_zero, List.getElem?_cons_succ, List.set_cons_zero, List.set_cons_succ, Option.map_some, Option.some.injEq, exists_eq_left', exists_eq', exists_eq_left, DS.O.pu.injEq, DS.O.fl.injEq, DS.O.fd.injEq, DS.wipeE, DS.backE, Option.getD_some, Option.getD_none, DS.D.bl.injEq, true_and, and_true, if_true, if_false, reduceCtorEq, Bool.false_eq_true, List.nodup_nil, List.nodup_cons, List.not_mem_nil, not_false_eq_true, exists_const, DS.s_at20, DS.s_at21, DS.s_at30, DS.s_at31, DS.s_at32, DS.s_revt, DS.p_non, DS.i_int_non, DS.i_bool_non, DS.i_str_non, DS.i_tuple_non, DS.i_list_non, DS.i_dict_non, DS.i_lt_non, DS.p_bl, DS.i_int_bl, DS.i_bool_bl, DS.i_str_bl, DS.i_tuple_bl, DS.i_list_bl, DS.i_dict_bl, DS.i_lt_bl, DS.p_int, DS.i_int_int, DS.i_bool_int, DS.i_str_int, DS.i_tuple_int, DS.i_list_int, DS.i_dict_int, DS.i_lt_int, DS.p_str, DS.i_int_str, DS.i_bool_str, DS.i_str_str, DS.i_tuple_str, DS.i_list_str, DS.i_dict_str, DS.i_lt_str, DS.p_lst, DS.i_int_lst, DS.i_bool_lst, DS.i_str_lst, DS.i_tuple_lst, DS.i_list_lst, DS.i_dict_lst, DS.i_lt_lst, DS.p_tup, DS.i_int_tup, DS.i_bool_tup, DS.i_str_tup, DS.i_tuple_tup, DS.i_list_tup, DS.i_dict_tup, DS.i_lt_tup, DS.p_dct, DS.i_int_dct, DS.i_bool_dct, DS.i_str_dct, DS.i_tuple_dct, DS.i_list_dct, DS.i_dict_dct, DS.i_lt_dct, DS.ite_tt, DS.ite_ff, Bool.not_true, Bool.not_false, true_and]
    obtain ⟨d, hd1, hd2⟩ := atI_in q0 q1 (by omega)
    have hr : r ≠ 0 := by omega
    refine ⟨d, hd2, ?_⟩
    rw [hj, if_neg hr]
    refine ⟨s2, n + 2, m, k, d, rfl, hm, by omega, by omega, hx d hd1, h2', by omega, fun y s3 hy h3 => ⟨rfl, ?_⟩⟩
    have l1 : (cutL xs none (some q)).length = q.toNat := by rw [cut_to q0, List.length_take]; omega
    have l2 : (cutL xs (some (q + 1)) none).length = xs.length - (q.toNat + 1) := by rw [cut_from (by omega), List.length_drop]; omega
    have h21 := p2 m
    simp only [DS.wSs, DS.wS, DS.wE, DS.wEs, DS.wAs, DS.wOI, DS.wCs, DS.asK, DS.tkD, DS.avIos, DS.putOs, DS.setAll, DS.opW, DS.bindT, DS.bindTs, DS.startE, DS.mTy, DS.ex_some, DS.ex_publ, DS.ex_int, DS.ex_int2, DS.ex_tup, DS.s_add1, DS.s_add2, DS.s_add3, DS.s_add4, DS.s_sub, DS.s_mul1, DS.s_mul2, DS.s_fdiv, DS.s_mod, DS.s_pow, DS.s_neg, DS.s_cmp1, DS.s_cmp2, DS.s_eq, DS.s_isN, DS.s_in1, DS.s_in2, DS.s_in3, DS.s_in4, DS.s_idx1, DS.s_idx2, DS.s_idx3, DS.s_idx4, DS.s_slc1, DS.s_slc2, DS.s_slc3, DS.s_slc4, DS.s_rev, DS.s_len1, DS.s_len2, DS.s_len3, DS.s_len4, DS.s_len5, DS.s_list1, DS.s_list2, DS.s_list3, DS.s_tuple1, DS.s_tuple2, DS.s_dict1, DS.s_dict2, DS.s_max2, DS.s_min2, DS.s_abs, DS.s_isi, DS.s_sum, DS.s_join, DS.s_upper, DS.s_items, DS.s_vals, DS.s_all, DS.s_str1, DS.s_str2, DS.s_str3, DS.s_int1, DS.s_int2, DS.s_get1, DS.s_get2, DS.s_dct0, DS.s_fz1, DS.s_fz2, DS.s_fz3, DS.s_bf1, DS.s_bf2, DS.s_bf3, DS.s_tr0, DS.s_tr1, DS.s_tr2, DS.s_tr3, DS.s_tr4, DS.s_tr5, DS.s_tr6, DS.s_av0, DS.s_av1, DS.s_av2, DS.s_ag0, DS.s_ag1, DS.s_ag2, DS.s_ty1, DS.s_ty2, DS.s_ty3, DS.s_ix0, DS.s_at0, DS.ex_cons, DS.s_dep1, DS.s_dep2, DS.s_dep3, DS.s_key1, DS.s_key2, DS.s_key3, DS.s_ot0, DS.ex_one, DS.s_ot1, DS.s_sq1, DS.s_sq2, DS.s_sq3, DS.s_sq4, DS.s_rg1, DS.s_rg2, DS.s_en, DS.s_it, DS.s_vl, List.map_cons, List.map_nil, List.cons_append, List.nil_append, List.length_cons, List.length_nil, List.replicate, Nat.add_one_sub_one, Nat.reduceAdd, Nat.reduceSub, List.append_nil, List.getElem?_cons_zero, List.getElem?_cons_succ, List.set_cons_zero, List.set_cons_succ, Option.map_some, Option.some.injEq, exists_eq_left', exists_eq', exists_eq_left, DS.O.pu.injEq, DS.O.fl.injEq, DS.O.fd.injEq, DS.wipeE, DS.backE, Option.getD_some, Option.getD_none, DS.D.bl.injEq, true_and, and_true, if_true, if_false, reduceCtorEq, Bool.false_eq_true, List.nodup_nil, List.nodup_cons, List.not_mem_nil, not_false_eq_true, exists_const, DS.s_at20, DS.s_at21, DS.s_at30, DS.s_at31, DS.s_at32, DS.s_revt, DS.p_non, DS.i_int_non, DS.i_bool_non, DS.i_str_non, DS.i_tuple_non, DS.i_list_non, DS.i_dict_non, DS.i_lt_non, DS.p_bl, DS.i_int_bl, DS.i_bool_bl, DS.i_str_bl, DS.i_tuple_bl, DS.i_list_bl, DS.i_dict_bl, DS.i_lt_bl, DS.p_int, DS.i_int_int, DS.i_bool_int, DS.i_str_int, DS.i_tuple_int, DS.i_list_int, DS.i_dict_int, DS.i_lt_int, DS.p_str, DS.i_int_str, DS.i_bool_str, DS.i_str_str, DS.i_tuple_str, DS.i_list_str, DS.i_dict_str, DS.i_lt_str, DS.p_lst, DS.i_int_lst, DS.i_bool_lst, DS.i_str_lst, DS.i_tuple_lst, DS.i_list_lst, DS.i_dict_lst, DS.i_lt_lst, DS.p_tup, DS.i_int_tup, DS.i_bool_tup, DS.i_str_tup, DS.i_tuple_tup, DS.i_list_tup, DS.i_dict_tup, DS.i_lt_tup, DS.p_dct, DS.i_int_dct, DS.i_bool_dct, DS.i_str_dct, DS.i_tuple_dct, DS.i_list_dct, DS.i_dict_dct, DS.i_lt_dct, DS.ite_tt, DS.ite_ff, Bool.not_true, Bool.not_false, true_and]
    refine ⟨by omega, by omega, by rw [List.length_append, l1, l2]; simp; omega, hk _ s3 (th_of ?_ fun x h => ?_) (h3.mono (by omega))⟩
    · simp only [List.length_append, l1, l2, List.length_cons, List.length_nil]
      omega
    · simp only [List.mem_append, List.mem_cons, List.not_mem_nil, or_false] at h
      rcases h with (h | h) | h
      · exact (hx x (cutL_mem h)).step
      · subst h; exact hy
      · exact (hx x (cutL_mem h)).step
  · rw [if_neg (by simpa using hg)]
    exact tail h1 (by omega)
end K01
namespace K01
open PySem PySem.Spec PyProof.Rows L2 DS
theorem okB {Γ : Gam} {j r : Nat} (hj : Γ j = if r = 0 then fsNo else fsBent (r - 1)) (h5 : Γ 5 = fsDraw) (h6 : Γ 6 = fsPick) (h11 : Γ 11 = fsTextBent) (h12 : Γ 12 = fsNb) : Fn.Ok Γ (fn17 j) (fsBent r) := by
  rintro args K R ⟨s, n, m, k, d, rfl, hm, hkr, hk6, hd, hs, hn, hk⟩
  refine ⟨rfl, ?_⟩
  have hz := sizeLine_eq
  unfold fn17
  cases d with
  | ins c fs => cases k <;> exact hd.elim
  | val u => cases k <;> exact hd.elim
  | scr xs => cases k <;> exact hd.elim
  | str z =>
    simp only [DS.wSs, DS.wS, DS.wE, DS.wEs, DS.wAs, DS.wOI, DS.wCs, DS.asK, DS.tkD, DS.avIos, DS.putOs, DS.setAll, DS.opW, DS.bindT, DS.bindTs, DS.startE, DS.mTy, DS.ex_some, DS.ex_publ, DS.ex_int, DS.ex_int2, DS.ex_tup, DS.s_add1, DS.s_add2, DS.s_add3, DS.s_add4, DS.s_sub, DS.s_mul1, DS.s_mul2, DS.s_fdiv, DS.s_mod, DS.s_pow, DS.s_neg, DS.s_cmp1, DS.s_cmp2, DS.s_eq, DS.s_isN, DS.s_in1, DS.s_in2, DS.s_in3, DS.s_in4, DS.s_idx1, DS.s_idx2, DS.s_idx3, DS.s_idx4, DS.s_slc1, DS.s_slc2, DS.s_slc3, DS.s_slc4, DS.s_rev, DS.s_len1, DS.s_len2, DS.s_len3, DS.s_len4, DS.s_len5, DS.s_list1, DS.s_list2, DS.s_list3, DS.s_tuple1, DS.s_tuple2, DS.s_dict1, DS.s_dict2, DS.s_max2, DS.s_min2, DS.s_abs, DS.s_isi, DS.s_sum, DS.s_join, DS.s_upper, DS.s_items, DS.s_vals, DS.s_all, DS.s_str1, DS.s_str2, DS.s_str3, DS.s_int1, DS.s_int2, DS.s_get1, DS.s_get2, DS.s_dct0, DS.s_fz1, DS.s_fz2, DS.s_fz3, DS.s_bf1, DS.s_bf2, DS.s_bf3, DS.s_tr0, DS.s_tr1, DS.s_tr2, DS.s_tr3, DS.s_tr4, DS.s_tr5, DS.s_tr6, DS.s_av0, DS.s_av1, DS.s_av2, DS.s_ag0, DS.s_ag1, DS.s_ag2, DS.s_ty1, DS.s_ty2, DS.s_ty3, DS.s_ix0, DS.s_at0, DS.ex_cons, DS.s_dep1, DS.s_dep2, DS.s_dep3, DS.s_key1, DS.s_key2, DS.s_key3, DS.s_ot0, DS.ex_one, DS.s_ot1, DS.s_sq1, DS.s_sq2, DS.s_sq3, DS.s_sq4, DS.s_rg1, DS.s_rg2, DS.s_en, DS.s_it, DS.s_vl, List.map_cons, List.map_nil, List.cons_append, List.nil_append, List.length_cons, List.length_nil, List.replicate, Nat.add_one_sub_one, Nat.reduceAdd, Nat.reduceSub, List.append_nil, List.getElem?_cons_zero, List.getElem?_cons_succ, List.set_cons_zero, List.set_cons_succ, Option.map_some, Option.some.injEq, exists_eq_left', exists_eq', exists_eq_left, DS.O.pu.injEq, DS.O.fl.injEq, DS.O.fd.injEq, DS.wipeE, DS.backE, Option.getD_some, Option.getD_none, DS.D.bl.injEq, true_and, and_true, if_true, if_false, reduceCtorEq, Bool.false_eq_true, List.nodup_nil, List.nodup_cons, List.not_mem_nil, not_false_eq_true, exists_const, DS.s_at20, DS.s_at21, DS.s_at30, DS.s_at31, DS.s_at32, DS.s_revt, DS.p_non, DS.i_int_non, DS.i_bool_non, DS.i_str_non, DS.i_tuple_non, DS.i_list_non, DS.i_dict_non, DS.i_lt_non, DS.p_bl, DS.i_int_bl, DS.i_bool_bl, DS.i_str_bl, DS.i_tuple_bl, DS.i_list_bl, DS.i_dict_bl, DS.i_lt_bl, DS.p_int, DS.i_int_int, DS.i_bool_int, DS.i_str_int, DS.i_tuple_int, DS.i_list_int, DS.i_dict_int, DS.i_lt_int, DS.p_str, DS.i_int_str, DS.i_bool_str, DS.i_str_str, DS.i_tuple_str, DS.i_list_str, DS.i_dict_str, DS.i_lt_str, DS.p_lst, DS.i_int_lst, DS.i_bool_lst, DS.i_str_lst, DS.i_tuple_lst, DS.i_list_lst, DS.i_dict_lst, DS.i_lt_lst, DS.p_tup, DS.i_int_tup, DS.i_bool_tup, DS.i_str_tup, DS.i_tuple_tup, DS.i_list_tup, DS.i_dict_tup, DS.i_lt_tup, DS.p_dct, DS.i_int_dct, DS.i_bool_dct, DS.i_str_dct, DS.i_tuple_dct, DS.i_list_dct, DS.i_dict_dct, DS.i_lt_dct, DS.ite_tt, DS.ite_ff, Bool.not_true, Bool.not_false, true_and, h11]
    have hl : z.length ≤ 30 * 4 ^ m := by rw [th_str] at hd; exact hd
    have h4 : 4 ^ m ≤ 4 ^ 4 := Nat.pow_le_pow_right (by decide) hm
    refine ⟨s, n, z, rfl, by omega, hs, by omega, fun y s1 hy h1 => ⟨rfl, ?_⟩⟩
    simp only [DS.wSs, DS.wS, DS.wE, DS.wEs, DS.wAs, DS.wOI, DS.wCs, DS.asK, DS.tkD, DS.avIos, DS.putOs, DS.setAll, DS.opW, DS.bindT, DS.bindTs, DS.startE, DS.mTy, DS.ex_some, DS.ex_publ, DS.ex_int, DS.ex_int2, DS.ex_tup, DS.s_add1, DS.s_add2, DS.s_add3, DS.s_add4, DS.s_sub, DS.s_mul1, DS.s_mul2, DS.s_fdiv, DS.s_mod, DS.s_pow, DS.s_neg, DS.s_cmp1, DS.s_cmp2, DS.s_eq, DS.s_isN, DS.s_in1, DS.s_in2, DS.s_in3, DS.s_in4, DS.s_idx1, DS.s_idx2, DS.s_idx3, DS.s_idx4, DS.s_slc1, DS.s_slc2, DS.s_slc3, DS.s_slc4, DS.s_rev, DS.s_len1, DS.s_len2, DS.s_len3, DS.s_len4, DS.s_len5, DS.s_list1, DS.s_list2, DS.s_list3, DS.s_tuple1, DS.s_tuple2, DS.s_dict1, DS.s_dict2, DS.s_max2, DS.s_min2, DS.s_abs, DS.s_isi, DS.s_sum, DS.s_join, DS.s_upper, DS.s_items, DS.s_vals, DS.s_all, DS.s_str1, DS.s_str2, DS.s_str3, DS.s_int1, DS.s_int2, DS.s_get1, DS.s_get2, DS.s_dct0, DS.s_fz1, DS.s_fz2, DS.s_fz3, DS.s_bf1, DS.s_bf2, DS.s_bf3, DS.s_tr0, DS.s_tr1, DS.s_tr2, DS.s_tr3, DS.s_tr4, DS.s_tr5, DS.s_tr6, DS.s_av0, DS.s_av1, DS.s_av2, DS.s_ag0, DS.s_ag1, DS.s_ag2, DS.s_ty1, DS.s_ty2, DS.s_ty3, DS.s_ix0, DS.s_at0, DS.ex_cons, DS.s_dep1, DS.s_dep2, DS.s_dep3, DS.s_key1, DS.s_key2, DS.s_key3, DS.s_ot0, DS.ex_one, DS.s_ot1, DS.s_sq1, DS.s_sq2, DS.s_sq3, DS.s_sq4, DS.s_rg1, DS.s_rg2, DS.s_en, DS.s_it, DS.s_vl, List.map_cons, List.map_nil, List.cons_append, List.nil_append, List.length_cons, List.length_nil, List.replicate, Nat.add_one_sub_one, Nat.reduceAdd, Nat.reduceSub, List.append_nil, List.getElem?_cons_zero, List.getElem?_cons_succ, List.set_cons_zero, List.set_cons_succ, Option.map_some, Option.some.injEq, exists_eq_left', exists_eq', exists_eq_left, DS.O.pu.injEq, DS.O.fl.injEq, DS.O.fd.injEq, DS.wipeE, DS.backE, Option.getD_some, Option.getD_none, DS.D.bl.injEq, true_and, and_true, if_true, if_false, reduceCtorEq, Bool.false_eq_true, List.nodup_nil, List.nodup_cons, List.not_mem_nil, not_false_eq_true, exists_const, DS.s_at20, DS.s_at21, DS.s_at30, DS.s_at31, DS.s_at32, DS.s_revt, DS.p_non, DS.i_int_non, DS.i_bool_non, DS.i_str_non, DS.i_tuple_non, DS.i_list_non, DS.i_dict_non, DS.i_lt_non, DS.p_bl, DS.i_int_bl, DS.i_bool_bl, DS.i_str_bl, DS.i_tuple_bl, DS.i_list_bl, DS.i_dict_bl, DS.i_lt_bl, DS.p_int, DS.i_int_int, DS.i_bool_int, DS.i_str_int, DS.i_tuple_int, DS.i_list_int, DS.i_dict_int, DS.i_lt_int, DS.p_str, DS.i_int_str, DS.i_bool_str, DS.i_str_str, DS.i_tuple_str, DS.i_list_str, DS.i_dict_str, DS.i_lt_str, DS.p_lst, DS.i_int_lst, DS.i_bool_lst, DS.i_str_lst, DS.i_tuple_lst, DS.i_list_lst, DS.i_dict_lst, DS.i_lt_lst, DS.p_tup, DS.i_int_tup, DS.i_bool_tup, DS.i_str_tup, DS.i_tuple_tup, DS.i_list_tup, DS.i_dict_tup, DS.i_lt_tup, DS.p_dct, DS.i_int_dct, DS.i_bool_dct, DS.i_str_dct, DS.i_tuple_dct, DS.i_list_dct, DS.i_dict_dct, DS.i_lt_dct, DS.ite_tt, DS.ite_ff, Bool.not_true, Bool.not_false, true_and]
    refine hk _ s1 ?_ (h1.mono (by omega))
    rw [th_str]
    have := p4 m
    have := Nat.pow_pos (n := m) (show 0 < 4 by decide)
    omega
  | int i =>
    simp only [DS.wSs, DS.wS, DS.wE, DS.wEs, DS.wAs, DS.wOI, DS.wCs, DS.asK, DS.tkD, DS.avIos, DS.putOs, DS.setAll, DS.opW, DS.bindT, DS.bindTs, DS.startE, DS.mTy, DS.ex_some, DS.ex_publ, DS.ex_int, DS.ex_int2, DS.ex_tup, DS.s_add1, DS.s_add2, DS.s_add3, DS.s_add4, DS.s_sub, DS.s_mul1, DS.s_mul2, DS.s_fdiv, DS.s_mod, DS.s_pow, DS.s_neg, DS.s_cmp1, DS.s_cmp2, DS.s_eq, DS.s_isN, DS.s_in1, DS.s_in2, DS.s_in3, DS.s_in4, DS.s_idx1, DS.s_idx2, DS.s_idx3, DS.s_idx4, DS.s_slc1, DS.s_slc2, DS.s_slc3, DS.s_slc4, DS.s_rev, DS.s_len1, DS.s_len2, DS.s_len3, DS.s_len4, DS.s_len5, DS.s_list1, DS.s_list2, DS.s_list3, DS.s_tuple1, DS.s_tuple2, DS.s_dict1, DS.s_dict2, DS.s_max2, DS.s_min2, DS.s_abs, DS.s_isi, DS.s_sum, DS.s_join, DS.s_upper, DS.s_items, DS.s_vals, DS.s_all, DS.s_str1, DS.s_str2, DS.s_str3, DS.s_int1, DS.s_int2, DS.s_get1, DS.s_get2, DS.s_dct0, DS.s_fz1, DS.s_fz2, DS.s_fz3, DS.s_bf1, DS.s_bf2, DS.s_bf3, DS.s_tr0, DS.s_tr1, DS.s_tr2, DS.s_tr3, DS.s_tr4, DS.s_tr5, DS.s_tr6, DS.s_av0, DS.s_av1, DS.s_av2, DS.s_ag0, DS.s_ag1, DS.s_ag2, DS.s_ty1, DS.s_ty2, DS.s_ty3, DS.s_ix0, DS.s_at0, DS.ex_cons, DS.s_dep1, DS.s_dep2, DS.s_dep3, DS.s_key1, DS.s_key2, DS.s_key3, DS.s_ot0, DS.ex_one, DS.s_ot1, DS.s_sq1, DS.s_sq2, DS.s_sq3, DS.s_sq4, DS.s_rg1, DS.s_rg2, DS.s_en, DS.s_it, DS.s_vl, List.map_cons, List.map_nil, List.cons_append, List.nil_append, List.length_cons, List.length_nil, List.replicate, Nat.add_one_sub_one, Nat.reduceAdd, Nat.reduceSub, List.append_nil, List.getElem?_cons_zero, List.getElem?_cons_succ, List.set_cons_zero, List.set_cons_succ, Option.map_some, Option.some.injEq, exists_eq_left', exists_eq', exists_eq_left, DS.O.pu.injEq, DS.O.fl.injEq, DS.O.fd.injEq, DS.wipeE, DS.backE, Option.getD_some, Option.getD_none, DS.D.bl.injEq, true_and, and_true, if_true, if_false, reduceCtorEq, Bool.false_eq_true, List.nodup_nil, List.nodup_cons, List.not_mem_nil, not_false_eq_true, exists_const, DS.s_at20, DS.s_at21, DS.s_at30, DS.s_at31, DS.s_at32, DS.s_revt, DS.p_non, DS.i_int_non, DS.i_bool_non, DS.i_str_non, DS.i_tuple_non, DS.i_list_non, DS.i_dict_non, DS.i_lt_non, DS.p_bl, DS.i_int_bl, DS.i_bool_bl, DS.i_str_bl, DS.i_tuple_bl, DS.i_list_bl, DS.i_dict_bl, DS.i_lt_bl, DS.p_int, DS.i_int_int, DS.i_bool_int, DS.i_str_int, DS.i_tuple_int, DS.i_list_int, DS.i_dict_int, DS.i_lt_int, DS.p_str, DS.i_int_str, DS.i_bool_str, DS.i_str_str, DS.i_tuple_str, DS.i_list_str, DS.i_dict_str, DS.i_lt_str, DS.p_lst, DS.i_int_lst, DS.i_bool_lst, DS.i_str_lst, DS.i_tuple_lst, DS.i_list_lst, DS.i_dict_lst, DS.i_lt_lst, DS.p_tup, DS.i_int_tup, DS.i_bool_tup, DS.i_str_tup, DS.i_tuple_tup, DS.i_list_tup, DS.i_dict_tup, DS.i_lt_tup, DS.p_dct, DS.i_int_dct, DS.i_bool_dct, DS.i_str_dct, DS.i_tuple_dct, DS.i_list_dct, DS.i_dict_dct, DS.i_lt_dct, DS.ite_tt, DS.ite_ff, Bool.not_true, Bool.not_false, true_and, h12]
    have hl : i.natAbs ≤ 10 ^ 9 + m := by rw [th_int] at hd; exact hd
    refine ⟨s, n, m, i, rfl, by omega, hl, hs, by omega, fun y s1 hy h1 => ⟨rfl, ?_⟩⟩
    simp only [DS.wSs, DS.wS, DS.wE, DS.wEs, DS.wAs, DS.wOI, DS.wCs, DS.asK, DS.tkD, DS.avIos, DS.putOs, DS.setAll, DS.opW, DS.bindT, DS.bindTs, DS.startE, DS.mTy, DS.ex_some, DS.ex_publ, DS.ex_int, DS.ex_int2, DS.ex_tup, DS.s_add1, DS.s_add2, DS.s_add3, DS.s_add4, DS.s_sub, DS.s_mul1, DS.s_mul2, DS.s_fdiv, DS.s_mod, DS.s_pow, DS.s_neg, DS.s_cmp1, DS.s_cmp2, DS.s_eq, DS.s_isN, DS.s_in1, DS.s_in2, DS.s_in3, DS.s_in4, DS.s_idx1, DS.s_idx2, DS.s_idx3, DS.s_idx4, DS.s_slc1, DS.s_slc2, DS.s_slc3, DS.s_slc4, DS.s_rev, DS.s_len1, DS.s_len2, DS.s_len3, DS.s_len4, DS.s_len5, DS.s_list1, DS.s_list2, DS.s_list3, DS.s_tuple1, DS.s_tuple2, DS.s_dict1, DS.s_dict2, DS.s_max2, DS.s_min2, DS.s_abs, DS.s_isi, DS.s_sum, DS.s_join, DS.s_upper, DS.s_items, DS.s_vals, DS.s_all, DS.s_str1, DS.s_str2, DS.s_str3, DS.s_int1, DS.s_int2, DS.s_get1, DS.s_get2, DS.s_dct0, DS.s_fz1, DS.s_fz2, DS.s_fz3, DS.s_bf1, DS.s_bf2, DS.s_bf3, DS.s_tr0, DS.s_tr1, DS.s_tr2, DS.s_tr3, DS.s_tr4, DS.s_tr5, DS.s_tr6, DS.s_av0, DS.s_av1, DS.s_av2, DS.s_ag0, DS.s_ag1, DS.s_ag2, DS.s_ty1, DS.s_ty2, DS.s_ty3, DS.s_ix0, DS.s_at0, DS.ex_cons, DS.s_dep1, DS.s_dep2, DS.s_dep3, DS.s_key1, DS.s_key2, DS.s_key3, DS.s_ot0, DS.ex_one, DS.s_ot1, DS.s_sq1, DS.s_sq2, DS.s_sq3, DS.s_sq4, DS.s_rg1, DS.s_rg2, DS.s_en, DS.s_it, DS.s_vl, List.map_cons, List.map_nil, List.cons_append, List.nil_append, List.length_cons, List.length_nil, List.replicate, Nat.add_one_sub_one, Nat.reduceAdd, Nat.reduceSub, List.append_nil, List.getElem?_cons_zero, List.getElem?_cons_succ, List.set_cons_zero, List.set_cons_succ, Option.map_some, Option.some.injEq, exists_eq_left', exists_eq', exists_eq_left, DS.O.pu.injEq, DS.O.fl.injEq, DS.O.fd.injEq, DS.wipeE, DS.backE, Option.getD_some, Option.getD_none, DS.D.bl.injEq, true_and, and_true, if_true, if_false, reduceCtorEq, Bool.false_eq_true, List.nodup_nil, List.nodup_cons, List.not_mem_nil, not_false_eq_true, exists_const, DS.s_at20, DS.s_at21, DS.s_at30, DS.s_at31, DS.s_at32, DS.s_revt, DS.p_non, DS.i_int_non, DS.i_bool_non, DS.i_str_non, DS.i_tuple_non, DS.i_list_non, DS.i_dict_non, DS.i_lt_non, DS.p_bl, DS.i_int_bl, DS.i_bool_bl, DS.i_str_bl, DS.i_tuple_bl, DS.i_list_bl, DS.i_dict_bl, DS.i_lt_bl, DS.p_int, DS.i_int_int, DS.i_bool_int, DS.i_str_int, DS.i_tuple_int, DS.i_list_int, DS.i_dict_int, DS.i_lt_int, DS.p_str, DS.i_int_str, DS.i_bool_str, DS.i_str_str, DS.i_tuple_str, DS.i_list_str, DS.i_dict_str, DS.i_lt_str, DS.p_lst, DS.i_int_lst, DS.i_bool_lst, DS.i_str_lst, DS.i_tuple_lst, DS.i_list_lst, DS.i_dict_lst, DS.i_lt_lst, DS.p_tup, DS.i_int_tup, DS.i_bool_tup, DS.i_str_tup, DS.i_tuple_tup, DS.i_list_tup, DS.i_dict_tup, DS.i_lt_tup, DS.p_dct, DS.i_int_dct, DS.i_bool_dct, DS.i_str_dct, DS.i_tuple_dct, DS.i_list_dct, DS.i_dict_dct, DS.i_lt_dct, DS.ite_tt, DS.ite_ff, Bool.not_true, Bool.not_false, true_and]
    refine hk _ s1 (th_one hy) (h1.mono (by omega))
  | tup xs => exact (okBt hj h5 h6 _ K R ⟨s, n, m, k, xs, rfl, hm, hkr, hk6, hd, hs, hn, hk⟩).2
  | _ =>
    simp only [DS.wSs, DS.wS, DS.wE, DS.wEs, DS.wAs, DS.wOI, DS.wCs, DS.asK, DS.tkD, DS.avIos, DS.putOs, DS.setAll, DS.opW, DS.bindT, DS.bindTs, DS.startE, DS.mTy, DS.ex_some, DS.ex_publ, DS.ex_int, DS.ex_int2, DS.ex_tup, DS.s_add1, DS.s_add2, DS.s_add3, DS.s_add4, DS.s_sub, DS.s_mul1, DS.s_mul2, DS.s_fdiv, DS.s_mod, DS.s_pow, DS.s_neg, DS.s_cmp1, DS.s_cmp2, DS.s_eq, DS.s_isN, DS.s_in1, DS.s_in2, DS.s_in3, DS.s_in4, DS.s_idx1, DS.s_idx2, DS.s_idx3, DS.s_idx4, DS.s_slc1, DS.s_slc2, DS.s_slc3, DS.s_slc4, DS.s_rev, DS.s_len1, DS.s_len2, DS.s_len3, DS.s_len4, DS.s_len5, DS.s_list1, DS.s_list2, DS.s_list3, DS.s_tuple1, DS.s_tuple2, DS.s_dict1, DS.s_dict2, DS.s_max2, DS.s_min2, DS.s_abs, DS.s_isi, DS.s_sum, DS.s_join, DS.s_upper, DS.s_items, DS.s_vals, DS.s_all, DS.s_str1, DS.s_str2, DS.s_str3, DS.s_int1, DS.s_int2, DS.s_get1, DS.s_get2, DS.s_dct0, DS.s_fz1, DS.s_fz2, DS.s_fz3, DS.s_bf1, DS.s_bf2, DS.s_bf3, DS.s_tr0, DS.s_tr1, DS.s_tr2, DS.s_tr3, DS.s_tr4, DS.s_tr5, DS.s_tr6, DS.s_av0, DS.s_av1, DS.s_av2, DS.s_ag0, DS.s_ag1, DS.s_ag2, DS.s_ty1, DS.s_ty2, DS.s_ty3, DS.s_ix0, DS.s_at0, DS.ex_cons, DS.s_dep1, DS.s_dep2, DS.s_dep3, DS.s_key1, DS.s_key2, DS.s_key3, DS.s_ot0, DS.ex_one, DS.s_ot1, DS.s_sq1, DS.s_sq2, DS.s_sq3, DS.s_sq4, DS.s_rg1, DS.s_rg2, DS.s_en, DS.s_it, DS.s_vl, List.map_cons, List.map_nil, List.cons_append, List.nil_append, List.length_cons, List.length_nil, List.replicate, Nat.add_one_sub_one, Nat.reduceAdd, Nat.reduceSub, List.append_nil, List.getElem?_cons_zero, List.getElem?_cons_succ, List.set_cons_zero, List.set_cons_succ, Option.map_some, Option.some.injEq, exists_eq_left', exists_eq', exists_eq_left, DS.O.pu.injEq, DS.O.fl.injEq, DS.O.fd.injEq, DS.wipeE, DS.backE, Option.getD_some, Option.getD_none, DS.D.bl.injEq, true_and, and_true, if_true, if_false, reduceCtorEq, Bool.false_eq_true, List.nodup_nil, List.nodup_cons, List.not_mem_nil, not_false_eq_true, exists_const, DS.s_at20, DS.s_at21, DS.s_at30, DS.s_at31, DS.s_at32, DS.s_revt, DS.p_non, DS.i_int_non, DS.i_bool_non, DS.i_str_non, DS.i_tuple_non, DS.i_list_non, DS.i_dict_non, DS.i_lt_non, DS.p_bl, DS.i_int_bl, DS.i_bool_bl, DS.i_str_bl, DS.i_tuple_bl, DS.i_list_bl, DS.i_dict_bl, DS.i_lt_bl, DS.p_int, DS.i_int_int, DS.i_bool_int, DS.i_str_int, DS.i_tuple_int, DS.i_list_int, DS.i_dict_int, DS.i_lt_int, DS.p_str, DS.i_int_str, DS.i_bool_str, DS.i_str_str, DS.i_tuple_str, DS.i_list_str, DS.i_dict_str, DS.i_lt_str, DS.p_lst, DS.i_int_lst, DS.i_bool_lst, DS.i_str_lst, DS.i_tuple_lst, DS.i_list_lst, DS.i_dict_lst, DS.i_lt_lst, DS.p_tup, DS.i_int_tup, DS.i_bool_tup, DS.i_str_tup, DS.i_tuple_tup, DS.i_list_tup, DS.i_dict_tup, DS.i_lt_tup, DS.p_dct, DS.i_int_dct, DS.i_bool_dct, DS.i_str_dct, DS.i_tuple_dct, DS.i_list_dct, DS.i_dict_dct, DS.i_lt_dct, DS.ite_tt, DS.ite_ff, Bool.not_true, Bool.not_false, true_and, h6]
    refine ⟨by omega, by omega, by omega, by omega, by omega, last_pick (m := m + 1) (k := k) hs (by omega) fun y s1 hy h1 => ⟨rfl, ?_⟩⟩
    simp only [DS.wSs, DS.wS, DS.wE, DS.wEs, DS.wAs, DS.wOI, DS.wCs, DS.asK, DS.tkD, DS.avIos, DS.putOs, DS.setAll, DS.opW, DS.bindT, DS.bindTs, DS.startE, DS.mTy, DS.ex_some, DS.ex_publ, DS.ex_int, DS.ex_int2, DS.ex_tup, DS.s_add1, DS.s_add2, DS.s_add3, DS.s_add4, DS.s_sub, DS.s_mul1, DS.s_mul2, DS.s_fdiv, DS.s_mod, DS.s_pow, DS.s_neg, DS.s_cmp1, DS.s_cmp2, DS.s_eq, DS.s_isN, DS.s_in1, DS.s_in2, DS.s_in3, DS.s_in4, DS.s_idx1, DS.s_idx2, DS.s_idx3, DS.s_idx4, DS.s_slc1, DS.s_slc2, DS.s_slc3, DS.s_slc4, DS.s_rev, DS.s_len1, DS.s_len2, DS.s_len3, DS.s_len4, DS.s_len5, DS.s_list1, DS.s_list2, DS.s_list3, DS.s_tuple1, DS.s_tuple2, DS.s_dict1, DS.s_dict2, DS.s_max2, DS.s_min2, DS.s_abs, DS.s_isi, DS.s_sum, DS.s_join, DS.s_upper, DS.s_items, DS.s_vals, DS.s_all, DS.s_str1, DS.s_str2, DS.s_str3, DS.s_int1, DS.s_int2, DS.s_get1, DS.s_get2, DS.s_dct0, DS.s_fz1, DS.s_fz2, DS.s_fz3, DS.s_bf1, DS.s_bf2, DS.s_bf3, DS.s_tr0, DS.s_tr1, DS.s_tr2, DS.s_tr3, DS.s_tr4, DS.s_tr5, DS.s_tr6, DS.s_av0, DS.s_av1, DS.s_av2, DS.s_ag0, DS.s_ag1, DS.s_ag2, DS.s_ty1, DS.s_ty2, DS.s_ty3, DS.s_ix0, DS.s_at0, DS.ex_cons, DS.s_dep1, DS.s_dep2, DS.s_dep3, DS.s_key1, DS.s_key2, DS.s_key3, DS.s_ot0, DS.ex_one, DS.s_ot1, DS.s_sq1, DS.s_sq2, DS.s_sq3, DS.s_sq4, DS.s_rg1, DS.s_rg2, DS.s_en, DS.s_it, DS.s_vl, List.map_cons, List.map_nil, List.cons_append, List.nil_append, List.length_cons, List.length_nil, List.replicate, Nat.add_one_sub_one, Nat.reduceAdd, Nat.reduceSub, List.append_nil, List.getElem?_cons_zero, List.getElem?_cons_succ, List.set_cons_zero, List.set_cons_succ, Option.map_some, Option.some.injEq, exists_eq_left', exists_eq', exists_eq_left, DS.O.pu.injEq, DS.O.fl.injEq, DS.O.fd.injEq, DS.wipeE, DS.backE, Option.getD_some, Option.getD_none, DS.D.bl.injEq, true_and, and_true, if_true, if_false, reduceCtorEq, Bool.false_eq_true, List.nodup_nil, List.nodup_cons, List.not_mem_nil, not_false_eq_true, exists_const, DS.s_at20, DS.s_at21, DS.s_at30, DS.s_at31, DS.s_at32, DS.s_revt, DS.p_non, DS.i_int_non, DS.i_bool_non, DS.i_str_non, DS.i_tuple_non, DS.i_list_non, DS.i_dict_non, DS.i_lt_non, DS.p_bl, DS.i_int_bl, DS.i_bool_bl, DS.i_str_bl, DS.i_tuple_bl, DS.i_list_bl, DS.i_dict_bl, DS.i_lt_bl, DS.p_int, DS.i_int_int, DS.i_bool_int, DS.i_str_int, DS.i_tuple_int, DS.i_list_int, DS.i_dict_int, DS.i_lt_int, DS.p_str, DS.i_int_str, DS.i_bool_str, DS.i_str_str, DS.i_tuple_str, DS.i_list_str, DS.i_dict_str, DS.i_lt_str, DS.p_lst, DS.i_int_lst, DS.i_bool_lst, DS.i_str_lst, DS.i_tuple_lst, DS.i_list_lst, DS.i_dict_lst, DS.i_lt_lst, DS.p_tup, DS.i_int_tup, DS.i_bool_tup, DS.i_str_tup, DS.i_tuple_tup, DS.i_list_tup, DS.i_dict_tup, DS.i_lt_tup, DS.p_dct, DS.i_int_dct, DS.i_bool_dct, DS.i_str_dct, DS.i_tuple_dct, DS.i_list_dct, DS.i_dict_dct, DS.i_lt_dct, DS.ite_tt, DS.ite_ff, Bool.not_true, Bool.not_false, true_and]
    exact hk _ s1 hy (h1.mono (by omega))
end K01
namespace K01
open PySem PySem.Spec PyProof.Rows L2 DS
theorem sift_loop {g : D → Ev → (Option D → Ev → Prop) → Prop} {E0 : Ev → Prop} {K : List D → Ev → Prop} (p : Nat → Bool) (hstep : ∀ c e L, E0 e → (∀ e1, E0 e1 → if p c = true then L none e1 else L (some (.str ⟨#[c]⟩)) e1) → g (.str ⟨#[c]⟩) e L) :
    ∀ (l : List Nat) (acc : List D) e, E0 e → acc.length + l.length ≤ sizeLine → (∀ e1, E0 e1 → K (acc ++ (l.filter fun c => !p c).map fun c => .str ⟨#[c]⟩) e1) → compW g (l.map fun c => .str ⟨#[c]⟩) acc e K
  | [], acc, e, he, hl, hk => by
    have := hk e he
    simpa [compW] using this
  | c :: l, acc, e, he, hl, hk => by
    simp only [List.map_cons]
    unfold compW
    simp only [List.length_cons] at hl
    refine hstep c e _ he fun e1 he1 => ?_
    by_cases h : p c = true
    · rw [if_pos h]
      exact sift_loop p hstep l acc e1 he1 (by omega) fun e2 he2 => by
        have := hk e2 he2
        simpa [h] using this
    · rw [if_neg h]
      refine ⟨by omega, ?_⟩
      have h' : p c = false := by simpa using h
      have := sift_loop p hstep l (acc ++ [.str ⟨#[c]⟩]) e1 he1 (by simp; omega) fun e2 he2 => by
        have := hk e2 he2
        simpa [h'] using this
      exact this
theorem ok18 {Γ : Gam} : Fn.Ok Γ f18 fsName := by
  rintro args K R ⟨d, rfl, hd, hk⟩
  refine ⟨rfl, ?_⟩
  have hsz := sizeLine_eq
  unfold f18
  cases d with
  | ins c fs => cases hd
  | val u => cases hd
  | scr xs => cases hd
  | str z =>
    have hz : z.length ≤ sizeLine := hd
    simp only [DS.wSs, DS.wS, DS.wE, DS.wEs, DS.wAs, DS.wOI, DS.wCs, DS.asK, DS.tkD, DS.avIos, DS.putOs, DS.setAll, DS.opW, DS.bindT, DS.bindTs, DS.startE, DS.mTy, DS.ex_some, DS.ex_publ, DS.ex_int, DS.ex_int2, DS.ex_tup, DS.s_add1, DS.s_add2, DS.s_add3, DS.s_add4, DS.s_sub, DS.s_mul1, DS.s_mul2, DS.s_fdiv, DS.s_mod, DS.s_pow, DS.s_neg, DS.s_cmp1, DS.s_cmp2, DS.s_eq, DS.s_isN, DS.s_in1, DS.s_in2, DS.s_in3, DS.s_in4, DS.s_idx1, DS.s_idx2, DS.s_idx3, DS.s_idx4, DS.s_slc1, DS.s_slc2, DS.s_slc3, DS.s_slc4, DS.s_rev, DS.s_len1, DS.s_len2, DS.s_len3, DS.s_len4, DS.s_len5, DS.s_list1, DS.s_list2, DS.s_list3, DS.s_tuple1, DS.s_tuple2, DS.s_dict1, DS.s_dict2, DS.s_max2, DS.s_min2, DS.s_abs, DS.s_isi, DS.s_sum, DS.s_join, DS.s_upper, DS.s_items, DS.s_vals, DS.s_all, DS.s_str1, DS.s_str2, DS.s_str3, DS.s_int1, DS.s_int2, DS.s_get1, DS.s_get2, DS.s_dct0, DS.s_fz1, DS.s_fz2, DS.s_fz3, DS.s_bf1, DS.s_bf2, DS.s_bf3, DS.s_tr0, DS.s_tr1, DS.s_tr2, DS.s_tr3, DS.s_tr4, DS.s_tr5, DS.s_tr6, DS.s_av0, DS.s_av1, DS.s_av2, DS.s_ag0, DS.s_ag1, DS.s_ag2, DS.s_ty1, DS.s_ty2, DS.s_ty3, DS.s_ix0, DS.s_at0, DS.ex_cons, DS.s_dep1, DS.s_dep2, DS.s_dep3, DS.s_key1, DS.s_key2, DS.s_key3, DS.s_ot0, DS.ex_one, DS.s_ot1, DS.s_sq1, DS.s_sq2, DS.s_sq3, DS.s_sq4, DS.s_rg1, DS.s_rg2, DS.s_en, DS.s_it, DS.s_vl, List.map_cons, List.map_nil, List.cons_append, List.nil_append, List.length_cons, List.length_nil, List.replicate, Nat.add_one_sub_one, Nat.reduceAdd, Nat.reduceSub, List.append_nil, List.getElem?_cons_zero, List.getElem?_cons_succ, List.set_cons_zero, List.set_cons_succ, Option.map_some, Option.some.injEq, exists_eq_left', exists_eq', exists_eq_left, DS.O.pu.injEq, DS.O.fl.injEq, DS.O.fd.injEq, DS.wipeE, DS.backE, Option.getD_some, Option.getD_none, DS.D.bl.injEq, true_and, and_true, if_true, if_false, reduceCtorEq, Bool.false_eq_true, List.nodup_nil, List.nodup_cons, List.not_mem_nil, not_false_eq_true, exists_const, DS.s_at20, DS.s_at21, DS.s_at30, DS.s_at31, DS.s_at32, DS.s_revt, DS.p_non, DS.i_int_non, DS.i_bool_non, DS.i_str_non, DS.i_tuple_non, DS.i_list_non, DS.i_dict_non, DS.i_lt_non, DS.p_bl, DS.i_int_bl, DS.i_bool_bl, DS.i_str_bl, DS.i_tuple_bl, DS.i_list_bl, DS.i_dict_bl, DS.i_lt_bl, DS.p_int, DS.i_int_int, DS.i_bool_int, DS.i_str_int, DS.i_tuple_int, DS.i_list_int, DS.i_dict_int, DS.i_lt_int, DS.p_str, DS.i_int_str, DS.i_bool_str, DS.i_str_str, DS.i_tuple_str, DS.i_list_str, DS.i_dict_str, DS.i_lt_str, DS.p_lst, DS.i_int_lst, DS.i_bool_lst, DS.i_str_lst, DS.i_tuple_lst, DS.i_list_lst, DS.i_dict_lst, DS.i_lt_lst, DS.p_tup, DS.i_int_tup, DS.i_bool_tup, DS.i_str_tup, DS.i_tuple_tup, DS.i_list_tup, DS.i_dict_tup, DS.i_lt_tup, DS.p_dct, DS.i_int_dct, DS.i_bool_dct, DS.i_str_dct, DS.i_tuple_dct, DS.i_list_dct, DS.i_dict_dct, DS.i_lt_dct, DS.ite_tt, DS.ite_ff, Bool.not_true, Bool.not_false, true_and]
    refine ⟨hz, by omega, ?_, ?_⟩
    · intro y hy
      simp only [List.mem_cons, List.not_mem_nil, or_false] at hy
      rcases hy with rfl | rfl | rfl | rfl | rfl | rfl <;> exact cmp_int
    have en : ([D.int 1, D.int 2, D.int 3, D.int 4, D.int 5, D.int 6].any fun y => deq y (D.int (z.length : Int))) = (decide (1 ≤ z.length) && decide (z.length ≤ 6)) := by
      rw [Bool.eq_iff_iff]
      simp only [List.any_cons, List.any_nil, deq_int, Bool.or_eq_true, decide_eq_true_eq, Bool.and_eq_true, Bool.false_eq_true, or_false]
      omega
    by_cases hn : 1 ≤ z.length ∧ z.length ≤ 6
    · have e1 : (decide (1 ≤ z.length) && decide (z.length ≤ 6)) = true := by simpa using hn
      simp only [en, e1, tf, if_false]
      refine sift_loop (fun c => decide (97 ≤ c) && decide (c ≤ 122)) (E0 := fun e => ∃ x1, e = [some (.pu (.str z)), x1]) ?_ z.cps.toList [] _ ⟨_, rfl⟩ (by show 0 + (cds z).length ≤ _; rw [cds_len]; omega) ?_
      · rintro c e L ⟨x1, rfl⟩ hL
        have := hL [some (.pu (.str z)), none] ⟨_, rfl⟩
        simp only [DS.wSs, DS.wS, DS.wE, DS.wEs, DS.wAs, DS.wOI, DS.wCs, DS.asK, DS.tkD, DS.avIos, DS.putOs, DS.setAll, DS.opW, DS.bindT, DS.bindTs, DS.startE, DS.mTy, DS.ex_some, DS.ex_publ, DS.ex_int, DS.ex_int2, DS.ex_tup, DS.s_add1, DS.s_add2, DS.s_add3, DS.s_add4, DS.s_sub, DS.s_mul1, DS.s_mul2, DS.s_fdiv, DS.s_mod, DS.s_pow, DS.s_neg, DS.s_cmp1, DS.s_cmp2, DS.s_eq, DS.s_isN, DS.s_in1, DS.s_in2, DS.s_in3, DS.s_in4, DS.s_idx1, DS.s_idx2, DS.s_idx3, DS.s_idx4, DS.s_slc1, DS.s_slc2, DS.s_slc3, DS.s_slc4, DS.s_rev, DS.s_len1, DS.s_len2, DS.s_len3, DS.s_len4, DS.s_len5, DS.s_list1, DS.s_list2, DS.s_list3, DS.s_tuple1, DS.s_tuple2, DS.s_dict1, DS.s_dict2, DS.s_max2, DS.s_min2, DS.s_abs, DS.s_isi, DS.s_sum, DS.s_join, DS.s_upper, DS.s_items, DS.s_vals, DS.s_all, DS.s_str1, DS.s_str2, DS.s_str3, DS.s_int1, DS.s_int2, DS.s_get1, DS.s_get2, DS.s_dct0, DS.s_fz1, DS.s_fz2, DS.s_fz3, DS.s_bf1, DS.s_bf2, DS.s_bf3, DS.s_tr0, DS.s_tr1, DS.s_tr2, DS.s_tr3, DS.s_tr4, DS.s_tr5, DS.s_tr6, DS.s_av0, DS.s_av1, DS.s_av2, DS.s_ag0, DS.s_ag1, DS.s_ag2, DS.s_ty1, DS.s_ty2, DS.s_ty3, DS.s_ix0, DS.s_at0, DS.ex_cons, DS.s_dep1, DS.s_dep2, DS.s_dep3, DS.s_key1, DS.s_key2, DS.s_key3, DS.s_ot0, DS.ex_one, DS.s_ot1, DS.s_sq1, DS.s_sq2, DS.s_sq3, DS.s_sq4, DS.s_rg1, DS.s_rg2, DS.s_en, DS.s_it, DS.s_vl, List.map_cons, List.map_nil, List.cons_append, List.nil_append, List.length_cons, List.length_nil, List.replicate, Nat.add_one_sub_one, Nat.reduceAdd, Nat.reduceSub, List.append_nil, List.getElem?_cons_zero, List.getElem?_cons_succ, List.set_cons_zero, List.set_cons_succ, Option.map_some, Option.some.injEq, exists_eq_left', exists_eq', exists_eq_left, DS.O.pu.injEq, DS.O.fl.injEq, DS.O.fd.injEq, DS.wipeE, DS.backE, Option.getD_some, Option.getD_none, DS.D.bl.injEq, true_and, and_true, if_true, if_false, reduceCtorEq, Bool.false_eq_true, List.nodup_nil, List.nodup_cons, List.not_mem_nil, not_false_eq_true, exists_const, DS.s_at20, DS.s_at21, DS.s_at30, DS.s_at31, DS.s_at32, DS.s_revt, DS.p_non, DS.i_int_non, DS.i_bool_non, DS.i_str_non, DS.i_tuple_non, DS.i_list_non, DS.i_dict_non, DS.i_lt_non, DS.p_bl, DS.i_int_bl, DS.i_bool_bl, DS.i_str_bl, DS.i_tuple_bl, DS.i_list_bl, DS.i_dict_bl, DS.i_lt_bl, DS.p_int, DS.i_int_int, DS.i_bool_int, DS.i_str_int, DS.i_tuple_int, DS.i_list_int, DS.i_dict_int, DS.i_lt_int, DS.p_str, DS.i_int_str, DS.i_bool_str, DS.i_str_str, DS.i_tuple_str, DS.i_list_str, DS.i_dict_str, DS.i_lt_str, DS.p_lst, DS.i_int_lst, DS.i_bool_lst, DS.i_str_lst, DS.i_tuple_lst, DS.i_list_lst, DS.i_dict_lst, DS.i_lt_lst, DS.p_tup, DS.i_int_tup, DS.i_bool_tup, DS.i_str_tup, DS.i_tuple_tup, DS.i_list_tup, DS.i_dict_tup, DS.i_lt_tup, DS.p_dct, DS.i_int_dct, DS.i_bool_dct, DS.i_str_dct, DS.i_tuple_dct, DS.i_list_dct, DS.i_dict_dct, DS.i_lt_dct, DS.ite_tt, DS.ite_ff, Bool.not_true, Bool.not_false, true_and]
        have hocc : (!(Builtin.Str.occurrences (Str.ofString "abcdefghijklmnopqrstuvwxyz") ⟨#[c]⟩ 0 (Str.ofString "abcdefghijklmnopqrstuvwxyz").length 1).isEmpty) = (decide (97 ≤ c) && decide (c ≤ 122)) := occ_one.trans alph_has
        by_cases h : (decide (97 ≤ c) && decide (c ≤ 122)) = true
        · simp only [hocc, h, tf, if_false, if_true] at this ⊢
          exact this
        · have h : (decide (97 ≤ c) && decide (c ≤ 122)) = false := by simpa using h
          simp only [hocc, h, ff, if_true] at this ⊢
          simpa using this
      · rintro e ⟨x1, rfl⟩
        simp only [DS.wSs, DS.wS, DS.wE, DS.wEs, DS.wAs, DS.wOI, DS.wCs, DS.asK, DS.tkD, DS.avIos, DS.putOs, DS.setAll, DS.opW, DS.bindT, DS.bindTs, DS.startE, DS.mTy, DS.ex_some, DS.ex_publ, DS.ex_int, DS.ex_int2, DS.ex_tup, DS.s_add1, DS.s_add2, DS.s_add3, DS.s_add4, DS.s_sub, DS.s_mul1, DS.s_mul2, DS.s_fdiv, DS.s_mod, DS.s_pow, DS.s_neg, DS.s_cmp1, DS.s_cmp2, DS.s_eq, DS.s_isN, DS.s_in1, DS.s_in2, DS.s_in3, DS.s_in4, DS.s_idx1, DS.s_idx2, DS.s_idx3, DS.s_idx4, DS.s_slc1, DS.s_slc2, DS.s_slc3, DS.s_slc4, DS.s_rev, DS.s_len1, DS.s_len2, DS.s_len3, DS.s_len4, DS.s_len5, DS.s_list1, DS.s_list2, DS.s_list3, DS.s_tuple1, DS.s_tuple2, DS.s_dict1, DS.s_dict2, DS.s_max2, DS.s_min2, DS.s_abs, DS.s_isi, DS.s_sum, DS.s_join, DS.s_upper, DS.s_items, DS.s_vals, DS.s_all, DS.s_str1, DS.s_str2, DS.s_str3, DS.s_int1, DS.s_int2, DS.s_get1, DS.s_get2, DS.s_dct0, DS.s_fz1, DS.s_fz2, DS.s_fz3, DS.s_bf1, DS.s_bf2, DS.s_bf3, DS.s_tr0, DS.s_tr1, DS.s_tr2, DS.s_tr3, DS.s_tr4, DS.s_tr5, DS.s_tr6, DS.s_av0, DS.s_av1, DS.s_av2, DS.s_ag0, DS.s_ag1, DS.s_ag2, DS.s_ty1, DS.s_ty2, DS.s_ty3, DS.s_ix0, DS.s_at0, DS.ex_cons, DS.s_dep1, DS.s_dep2, DS.s_dep3, DS.s_key1, DS.s_key2, DS.s_key3, DS.s_ot0, DS.ex_one, DS.s_ot1, DS.s_sq1, DS.s_sq2, DS.s_sq3, DS.s_sq4, DS.s_rg1, DS.s_rg2, DS.s_en, DS.s_it, DS.s_vl, List.map_cons, List.map_nil, List.cons_append, List.nil_append, List.length_cons, List.length_nil, List.replicate, Nat.add_one_sub_one, Nat.reduceAdd, Nat.reduceSub, List.append_nil, List.getElem?_cons_zero, List.getElem?_cons_succ, List.set_cons_zero, List.set_cons_succ, Option.map_some, Option.some.injEq, exists_eq_left', exists_eq', exists_eq_left, DS.O.pu.injEq, DS.O.fl.injEq, DS.O.fd.injEq, DS.wipeE, DS.backE, Option.getD_some, Option.getD_none, DS.D.bl.injEq, true_and, and_true, if_true, if_false, reduceCtorEq, Bool.false_eq_true, List.nodup_nil, List.nodup_cons, List.not_mem_nil, not_false_eq_true, exists_const, DS.s_at20, DS.s_at21, DS.s_at30, DS.s_at31, DS.s_at32, DS.s_revt, DS.p_non, DS.i_int_non, DS.i_bool_non, DS.i_str_non, DS.i_tuple_non, DS.i_list_non, DS.i_dict_non, DS.i_lt_non, DS.p_bl, DS.i_int_bl, DS.i_bool_bl, DS.i_str_bl, DS.i_tuple_bl, DS.i_list_bl, DS.i_dict_bl, DS.i_lt_bl, DS.p_int, DS.i_int_int, DS.i_bool_int, DS.i_str_int, DS.i_tuple_int, DS.i_list_int, DS.i_dict_int, DS.i_lt_int, DS.p_str, DS.i_int_str, DS.i_bool_str, DS.i_str_str, DS.i_tuple_str, DS.i_list_str, DS.i_dict_str, DS.i_lt_str, DS.p_lst, DS.i_int_lst, DS.i_bool_lst, DS.i_str_lst, DS.i_tuple_lst, DS.i_list_lst, DS.i_dict_lst, DS.i_lt_lst, DS.p_tup, DS.i_int_tup, DS.i_bool_tup, DS.i_str_tup, DS.i_tuple_tup, DS.i_list_tup, DS.i_dict_tup, DS.i_lt_tup, DS.p_dct, DS.i_int_dct, DS.i_bool_dct, DS.i_str_dct, DS.i_tuple_dct, DS.i_list_dct, DS.i_dict_dct, DS.i_lt_dct, DS.ite_tt, DS.ite_ff, Bool.not_true, Bool.not_false, true_and, List.nil_append]
        have hd1 : deq (.lst ((z.cps.toList.filter fun c => !(decide (97 ≤ c) && decide (c ≤ 122))).map fun c => .str ⟨#[c]⟩)) (.lst []) = isName (.str z) := by
          rw [deq_lst]
          show _ = isNmB z
          unfold isNmB
          rw [show decide (1 ≤ z.length) = true by simpa using hn.1, show decide (z.length ≤ 6) = true by simpa using hn.2]
          simp only [Bool.true_and]
          show _ = (z.cps.toList).all _
          induction z.cps.toList with
          | nil => rfl
          | cons c l ih =>
            by_cases h : (decide (97 ≤ c) && decide (c ≤ 122)) = true
            · simp only [List.filter_cons, h, List.all_cons, Bool.true_and, Bool.not_true]
              exact ih
            · have h : (decide (97 ≤ c) && decide (c ≤ 122)) = false := by simpa using h
              simp only [List.filter_cons, h, List.all_cons, Bool.false_and, Bool.not_false, if_true, List.map_cons]
              rfl
        have hd2 : depD (.lst ((z.cps.toList.filter fun c => !(decide (97 ≤ c) && decide (c ≤ 122))).map fun c => .str ⟨#[c]⟩)) ≤ 8 := by
          simp only [depD]
          have := depDs_le (n := 0) (xs := (z.cps.toList.filter fun c => !(decide (97 ≤ c) && decide (c ≤ 122))).map fun c => .str ⟨#[c]⟩) fun x hx => by
            obtain ⟨c, _, rfl⟩ := List.mem_map.1 hx
            simp [depD]
          omega
        refine ⟨by omega, ⟨?_, hd2⟩, ?_⟩
        · simp only [comp]
          cases (z.cps.toList.filter fun c => !(decide (97 ≤ c) && decide (c ≤ 122))) <;> simp [comps]
        · rw [hd1]
          have : (isName (.str z) == true) = isName (.str z) := by cases isName (.str z) <;> rfl
          rw [this]
          exact hk
    · have e1 : (decide (1 ≤ z.length) && decide (z.length ≤ 6)) = false := by
        rw [Bool.eq_false_iff]
        intro h
        exact hn (by simpa using h)
      simp only [en, e1, ff, if_true]
      have : isName (.str z) = false := by
        show isNmB z = _
        unfold isNmB
        rw [e1]
        rfl
      rw [this] at hk
      exact hk
  | _ => simp only [DS.wSs, DS.wS, DS.wE, DS.wEs, DS.wAs, DS.wOI, DS.wCs, DS.asK, DS.tkD, DS.avIos, DS.putOs, DS.setAll, DS.opW, DS.bindT, DS.bindTs, DS.startE, DS.mTy, DS.ex_some, DS.ex_publ, DS.ex_int, DS.ex_int2, DS.ex_tup, DS.s_add1, DS.s_add2, DS.s_add3, DS.s_add4, DS.s_sub, DS.s_mul1, DS.s_mul2, DS.s_fdiv, DS.s_mod, DS.s_pow, DS.s_neg, DS.s_cmp1, DS.s_cmp2, DS.s_eq, DS.s_isN, DS.s_in1, DS.s_in2, DS.s_in3, DS.s_in4, DS.s_idx1, DS.s_idx2, DS.s_idx3, DS.s_idx4, DS.s_slc1, DS.s_slc2, DS.s_slc3, DS.s_slc4, DS.s_rev, DS.s_len1, DS.s_len2, DS.s_len3, DS.s_len4, DS.s_len5, DS.s_list1, DS.s_list2, DS.s_list3, DS.s_tuple1, DS.s_tuple2, DS.s_dict1, DS.s_dict2, DS.s_max2, DS.s_min2, DS.s_abs, DS.s_isi, DS.s_sum, DS.s_join, DS.s_upper, DS.s_items, DS.s_vals, DS.s_all, DS.s_str1, DS.s_str2, DS.s_str3, DS.s_int1, DS.s_int2, DS.s_get1, DS.s_get2, DS.s_dct0, DS.s_fz1, DS.s_fz2, DS.s_fz3, DS.s_bf1, DS.s_bf2, DS.s_bf3, DS.s_tr0, DS.s_tr1, DS.s_tr2, DS.s_tr3, DS.s_tr4, DS.s_tr5, DS.s_tr6, DS.s_av0, DS.s_av1, DS.s_av2, DS.s_ag0, DS.s_ag1, DS.s_ag2, DS.s_ty1, DS.s_ty2, DS.s_ty3, DS.s_ix0, DS.s_at0, DS.ex_cons, DS.s_dep1, DS.s_dep2, DS.s_dep3, DS.s_key1, DS.s_key2, DS.s_key3, DS.s_ot0, DS.ex_one, DS.s_ot1, DS.s_sq1, DS.s_sq2, DS.s_sq3, DS.s_sq4, DS.s_rg1, DS.s_rg2, DS.s_en, DS.s_it, DS.s_vl, List.map_cons, List.map_nil, List.cons_append, List.nil_append, List.length_cons, List.length_nil, List.replicate, Nat.add_one_sub_one, Nat.reduceAdd, Nat.reduceSub, List.append_nil, List.getElem?_cons_zero, List.getElem?_cons_succ, List.set_cons_zero, List.set_cons_succ, Option.map_some, Option.some.injEq, exists_eq_left', exists_eq', exists_eq_left, DS.O.pu.injEq, DS.O.fl.injEq, DS.O.fd.injEq, DS.wipeE, DS.backE, Option.getD_some, Option.getD_none, DS.D.bl.injEq, true_and, and_true, if_true, if_false, reduceCtorEq, Bool.false_eq_true, List.nodup_nil, List.nodup_cons, List.not_mem_nil, not_false_eq_true, exists_const, DS.s_at20, DS.s_at21, DS.s_at30, DS.s_at31, DS.s_at32, DS.s_revt, DS.p_non, DS.i_int_non, DS.i_bool_non, DS.i_str_non, DS.i_tuple_non, DS.i_list_non, DS.i_dict_non, DS.i_lt_non, DS.p_bl, DS.i_int_bl, DS.i_bool_bl, DS.i_str_bl, DS.i_tuple_bl, DS.i_list_bl, DS.i_dict_bl, DS.i_lt_bl, DS.p_int, DS.i_int_int, DS.i_bool_int, DS.i_str_int, DS.i_tuple_int, DS.i_list_int, DS.i_dict_int, DS.i_lt_int, DS.p_str, DS.i_int_str, DS.i_bool_str, DS.i_str_str, DS.i_tuple_str, DS.i_list_str, DS.i_dict_str, DS.i_lt_str, DS.p_lst, DS.i_int_lst, DS.i_bool_lst, DS.i_str_lst, DS.i_tuple_lst, DS.i_list_lst, DS.i_dict_lst, DS.i_lt_lst, DS.p_tup, DS.i_int_tup, DS.i_bool_tup, DS.i_str_tup, DS.i_tuple_tup, DS.i_list_tup, DS.i_dict_tup, DS.i_lt_tup, DS.p_dct, DS.i_int_dct, DS.i_bool_dct, DS.i_str_dct, DS.i_tuple_dct, DS.i_list_dct, DS.i_dict_dct, DS.i_lt_dct, DS.ite_tt, DS.ite_ff, Bool.not_true, Bool.not_false, true_and]; exact hk
end K01
namespace K01
open PySem PySem.Spec PyProof.Rows L2 DS
def r4 : List S := [.ret (.andE (.op (.isi ["int"]) [.io 3]) (.andE (.notE (.op (.isi ["bool"]) [.io 3])) (.andE (.op .ge [.io 3, .op .neg [.op .pow [.con (.int 10), .con (.int 9)]]]) (.op .le [.io 3, .op .pow [.con (.int 10), .con (.int 9)]]))))]
def r3 : List S := .ifs (.orE (.andE (.op .isN [.io 1]) (.op .isN [.io 2])) (.andE (.call 18 [.var 1]) (.andE (.call 18 [.var 2]) (.op .eq [.io 1, .io 2])))) [.ret (.con (.bl false))] [] :: r4
def r2 : List S := .ifs (.orE (.andE (.op .notN [.io 1]) (.notE (.call 18 [.var 1]))) (.andE (.op .notN [.io 2]) (.notE (.call 18 [.var 2])))) [.ret (.con (.bl false))] [] :: r3
def fR : Fn := ⟨4, 1, [], .ifs (.orE (.notE (.op (.isi ["tuple"]) [.io 0])) (.op .ne [.op .len [.io 0], .con (.int 3)])) [.ret (.con (.bl false))] [] ::
    .tgt (.t [.n 1, .n 2, .n 3]) (.var 0) :: r2⟩
theorem fR_eq : f19 = fR := rfl
theorem r4_ok {Γ : Gam} {x l r : O} {b : D} (ab : Askd b) {nx : Ev → Prop} {rt : O → Ev → Prop} {bk ct : Ev → Prop} {R : Xp → Ev → Prop} (hk : ∀ e, rt (.pu (.bl (isNum (-1000000000) 1000000000 b))) e) : wSs Γ r4 [some x, some l, some r, some (.pu b)] ⟨nx, rt, bk, ct⟩ R := by
  unfold r4
  have e9 : (10 : Int) ^ Int.toNat 9 = 1000000000 := by decide
  cases b with
  | ins c fs => cases ab
  | val u => cases ab
  | scr xs => cases ab
  | int i =>
    simp only [DS.wSs, DS.wS, DS.wE, DS.wEs, DS.wAs, DS.wOI, DS.wCs, DS.asK, DS.tkD, DS.avIos, DS.putOs, DS.setAll, DS.opW, DS.bindT, DS.bindTs, DS.startE, DS.mTy, DS.ex_some, DS.ex_publ, DS.ex_int, DS.ex_int2, DS.ex_tup, DS.s_add1, DS.s_add2, DS.s_add3, DS.s_add4, DS.s_sub, DS.s_mul1, DS.s_mul2, DS.s_fdiv, DS.s_mod, DS.s_pow, DS.s_neg, DS.s_cmp1, DS.s_cmp2, DS.s_eq, DS.s_isN, DS.s_in1, DS.s_in2, DS.s_in3, DS.s_in4, DS.s_idx1, DS.s_idx2, DS.s_idx3, DS.s_idx4, DS.s_slc1, DS.s_slc2, DS.s_slc3, DS.s_slc4, DS.s_rev, DS.s_len1, DS.s_len2, DS.s_len3, DS.s_len4, DS.s_len5, DS.s_list1, DS.s_list2, DS.s_list3, DS.s_tuple1, DS.s_tuple2, DS.s_dict1, DS.s_dict2, DS.s_max2, DS.s_min2, DS.s_abs, DS.s_isi, DS.s_sum, DS.s_join, DS.s_upper, DS.s_items, DS.s_vals, DS.s_all, DS.s_str1, DS.s_str2, DS.s_str3, DS.s_int1, DS.s_int2, DS.s_get1, DS.s_get2, DS.s_dct0, DS.s_fz1, DS.s_fz2, DS.s_fz3, DS.s_bf1, DS.s_bf2, DS.s_bf3, DS.s_tr0, DS.s_tr1, DS.s_tr2, DS.s_tr3, DS.s_tr4, DS.s_tr5, DS.s_tr6, DS.s_av0, DS.s_av1, DS.s_av2, DS.s_ag0, DS.s_ag1, DS.s_ag2, DS.s_ty1, DS.s_ty2, DS.s_ty3, DS.s_ix0, DS.s_at0, DS.ex_cons, DS.s_dep1, DS.s_dep2, DS.s_dep3, DS.s_key1, DS.s_key2, DS.s_key3, DS.s_ot0, DS.ex_one, DS.s_ot1, DS.s_sq1, DS.s_sq2, DS.s_sq3, DS.s_sq4, DS.s_rg1, DS.s_rg2, DS.s_en, DS.s_it, DS.s_vl, List.map_cons, List.map_nil, List.cons_append, List.nil_append, List.length_cons, List.length_nil, List.replicate, Nat.add_one_sub_one, Nat.reduceAdd, Nat.reduceSub, List.append_nil, List.getElem?_cons_zero, List.getElem?_cons_succ, List.set_cons_zero, List.set_cons_succ, Option.map_some, Option.some.injEq, exists_eq_left', exists_eq', exists_eq_left, DS.O.pu.injEq, DS.O.fl.injEq, DS.O.fd.injEq, DS.wipeE, DS.backE, Option.getD_some, Option.getD_none, DS.D.bl.injEq, true_and, and_true, if_true, if_false, reduceCtorEq, Bool.false_eq_true, List.nodup_nil, List.nodup_cons, List.not_mem_nil, not_false_eq_true, exists_const, DS.s_at20, DS.s_at21, DS.s_at30, DS.s_at31, DS.s_at32, DS.s_revt, DS.p_non, DS.i_int_non, DS.i_bool_non, DS.i_str_non, DS.i_tuple_non, DS.i_list_non, DS.i_dict_non, DS.i_lt_non, DS.p_bl, DS.i_int_bl, DS.i_bool_bl, DS.i_str_bl, DS.i_tuple_bl, DS.i_list_bl, DS.i_dict_bl, DS.i_lt_bl, DS.p_int, DS.i_int_int, DS.i_bool_int, DS.i_str_int, DS.i_tuple_int, DS.i_list_int, DS.i_dict_int, DS.i_lt_int, DS.p_str, DS.i_int_str, DS.i_bool_str, DS.i_str_str, DS.i_tuple_str, DS.i_list_str, DS.i_dict_str, DS.i_lt_str, DS.p_lst, DS.i_int_lst, DS.i_bool_lst, DS.i_str_lst, DS.i_tuple_lst, DS.i_list_lst, DS.i_dict_lst, DS.i_lt_lst, DS.p_tup, DS.i_int_tup, DS.i_bool_tup, DS.i_str_tup, DS.i_tuple_tup, DS.i_list_tup, DS.i_dict_tup, DS.i_lt_tup, DS.p_dct, DS.i_int_dct, DS.i_bool_dct, DS.i_str_dct, DS.i_tuple_dct, DS.i_list_dct, DS.i_dict_dct, DS.i_lt_dct, DS.ite_tt, DS.ite_ff, Bool.not_true, Bool.not_false, true_and, e9]
    refine ⟨⟨by decide, by decide⟩, ?_⟩
    simp only [isNum] at hk
    by_cases h : -1000000000 ≤ i
    · have hd : decide (-1000000000 ≤ i) = true := by simpa using h
      have := hk [some x, some l, some r, some (.pu (.int i))]
      simp only [hd, Bool.true_and] at this
      simp only [ge_iff_le, hd, DS.wSs, DS.wS, DS.wE, DS.wEs, DS.wAs, DS.wOI, DS.wCs, DS.asK, DS.tkD, DS.avIos, DS.putOs, DS.setAll, DS.opW, DS.bindT, DS.bindTs, DS.startE, DS.mTy, DS.ex_some, DS.ex_publ, DS.ex_int, DS.ex_int2, DS.ex_tup, DS.s_add1, DS.s_add2, DS.s_add3, DS.s_add4, DS.s_sub, DS.s_mul1, DS.s_mul2, DS.s_fdiv, DS.s_mod, DS.s_pow, DS.s_neg, DS.s_cmp1, DS.s_cmp2, DS.s_eq, DS.s_isN, DS.s_in1, DS.s_in2, DS.s_in3, DS.s_in4, DS.s_idx1, DS.s_idx2, DS.s_idx3, DS.s_idx4, DS.s_slc1, DS.s_slc2, DS.s_slc3, DS.s_slc4, DS.s_rev, DS.s_len1, DS.s_len2, DS.s_len3, DS.s_len4, DS.s_len5, DS.s_list1, DS.s_list2, DS.s_list3, DS.s_tuple1, DS.s_tuple2, DS.s_dict1, DS.s_dict2, DS.s_max2, DS.s_min2, DS.s_abs, DS.s_isi, DS.s_sum, DS.s_join, DS.s_upper, DS.s_items, DS.s_vals, DS.s_all, DS.s_str1, DS.s_str2, DS.s_str3, DS.s_int1, DS.s_int2, DS.s_get1, DS.s_get2, DS.s_dct0, DS.s_fz1, DS.s_fz2, DS.s_fz3, DS.s_bf1, DS.s_bf2, DS.s_bf3, DS.s_tr0, DS.s_tr1, DS.s_tr2, DS.s_tr3, DS.s_tr4, DS.s_tr5, DS.s_tr6, DS.s_av0, DS.s_av1, DS.s_av2, DS.s_ag0, DS.s_ag1, DS.s_ag2, DS.s_ty1, DS.s_ty2, DS.s_ty3, DS.s_ix0, DS.s_at0, DS.ex_cons, DS.s_dep1, DS.s_dep2, DS.s_dep3, DS.s_key1, DS.s_key2, DS.s_key3, DS.s_ot0, DS.ex_one, DS.s_ot1, DS.s_sq1, DS.s_sq2, DS.s_sq3, DS.s_sq4, DS.s_rg1, DS.s_rg2, DS.s_en, DS.s_it, DS.s_vl, List.map_cons, List.map_nil, List.cons_append, List.nil_append, List.length_cons, List.length_nil, List.replicate, Nat.add_one_sub_one, Nat.reduceAdd, Nat.reduceSub, List.append_nil, List.getElem?_cons_zero, List.getElem?_cons_succ, List.set_cons_zero, List.set_cons_succ, Option.map_some, Option.some.injEq, exists_eq_left', exists_eq', exists_eq_left, DS.O.pu.injEq, DS.O.fl.injEq, DS.O.fd.injEq, DS.wipeE, DS.backE, Option.getD_some, Option.getD_none, DS.D.bl.injEq, true_and, and_true, if_true, if_false, reduceCtorEq, Bool.false_eq_true, List.nodup_nil, List.nodup_cons, List.not_mem_nil, not_false_eq_true, exists_const, DS.s_at20, DS.s_at21, DS.s_at30, DS.s_at31, DS.s_at32, DS.s_revt, DS.p_non, DS.i_int_non, DS.i_bool_non, DS.i_str_non, DS.i_tuple_non, DS.i_list_non, DS.i_dict_non, DS.i_lt_non, DS.p_bl, DS.i_int_bl, DS.i_bool_bl, DS.i_str_bl, DS.i_tuple_bl, DS.i_list_bl, DS.i_dict_bl, DS.i_lt_bl, DS.p_int, DS.i_int_int, DS.i_bool_int, DS.i_str_int, DS.i_tuple_int, DS.i_list_int, DS.i_dict_int, DS.i_lt_int, DS.p_str, DS.i_int_str, DS.i_bool_str, DS.i_str_str, DS.i_tuple_str, DS.i_list_str, DS.i_dict_str, DS.i_lt_str, DS.p_lst, DS.i_int_lst, DS.i_bool_lst, DS.i_str_lst, DS.i_tuple_lst, DS.i_list_lst, DS.i_dict_lst, DS.i_lt_lst, DS.p_tup, DS.i_int_tup, DS.i_bool_tup, DS.i_str_tup, DS.i_tuple_tup, DS.i_list_tup, DS.i_dict_tup, DS.i_lt_tup, DS.p_dct, DS.i_int_dct, DS.i_bool_dct, DS.i_str_dct, DS.i_tuple_dct, DS.i_list_dct, DS.i_dict_dct, DS.i_lt_dct, DS.ite_tt, DS.ite_ff, Bool.not_true, Bool.not_false, true_and]
      exact ⟨⟨by decide, by decide⟩, this⟩
    · have hd : decide (-1000000000 ≤ i) = false := by simpa using h
      have := hk [some x, some l, some r, some (.pu (.int i))]
      simp only [hd, Bool.false_and] at this
      simp only [ge_iff_le, hd, DS.wSs, DS.wS, DS.wE, DS.wEs, DS.wAs, DS.wOI, DS.wCs, DS.asK, DS.tkD, DS.avIos, DS.putOs, DS.setAll, DS.opW, DS.bindT, DS.bindTs, DS.startE, DS.mTy, DS.ex_some, DS.ex_publ, DS.ex_int, DS.ex_int2, DS.ex_tup, DS.s_add1, DS.s_add2, DS.s_add3, DS.s_add4, DS.s_sub, DS.s_mul1, DS.s_mul2, DS.s_fdiv, DS.s_mod, DS.s_pow, DS.s_neg, DS.s_cmp1, DS.s_cmp2, DS.s_eq, DS.s_isN, DS.s_in1, DS.s_in2, DS.s_in3, DS.s_in4, DS.s_idx1, DS.s_idx2, DS.s_idx3, DS.s_idx4, DS.s_slc1, DS.s_slc2, DS.s_slc3, DS.s_slc4, DS.s_rev, DS.s_len1, DS.s_len2, DS.s_len3, DS.s_len4, DS.s_len5, DS.s_list1, DS.s_list2, DS.s_list3, DS.s_tuple1, DS.s_tuple2, DS.s_dict1, DS.s_dict2, DS.s_max2, DS.s_min2, DS.s_abs, DS.s_isi, DS.s_sum, DS.s_join, DS.s_upper, DS.s_items, DS.s_vals, DS.s_all, DS.s_str1, DS.s_str2, DS.s_str3, DS.s_int1, DS.s_int2, DS.s_get1, DS.s_get2, DS.s_dct0, DS.s_fz1, DS.s_fz2, DS.s_fz3, DS.s_bf1, DS.s_bf2, DS.s_bf3, DS.s_tr0, DS.s_tr1, DS.s_tr2, DS.s_tr3, DS.s_tr4, DS.s_tr5, DS.s_tr6, DS.s_av0, DS.s_av1, DS.s_av2, DS.s_ag0, DS.s_ag1, DS.s_ag2, DS.s_ty1, DS.s_ty2, DS.s_ty3, DS.s_ix0, DS.s_at0, DS.ex_cons, DS.s_dep1, DS.s_dep2, DS.s_dep3, DS.s_key1, DS.s_key2, DS.s_key3, DS.s_ot0, DS.ex_one, DS.s_ot1, DS.s_sq1, DS.s_sq2, DS.s_sq3, DS.s_sq4, DS.s_rg1, DS.s_rg2, DS.s_en, DS.s_it, DS.s_vl, List.map_cons, List.map_nil, List.cons_append, List.nil_append, List.length_cons, List.length_nil, List.replicate, Nat.add_one_sub_one, Nat.reduceAdd, Nat.reduceSub, List.append_nil, List.getElem?_cons_zero, List.getElem?_cons_succ, List.set_cons_zero, List.set_cons_succ, Option.map_some, Option.some.injEq, exists_eq_left', exists_eq', exists_eq_left, DS.O.pu.injEq, DS.O.fl.injEq, DS.O.fd.injEq, DS.wipeE, DS.backE, Option.getD_some, Option.getD_none, DS.D.bl.injEq, true_and, and_true, if_true, if_false, reduceCtorEq, Bool.false_eq_true, List.nodup_nil, List.nodup_cons, List.not_mem_nil, not_false_eq_true, exists_const, DS.s_at20, DS.s_at21, DS.s_at30, DS.s_at31, DS.s_at32, DS.s_revt, DS.p_non, DS.i_int_non, DS.i_bool_non, DS.i_str_non, DS.i_tuple_non, DS.i_list_non, DS.i_dict_non, DS.i_lt_non, DS.p_bl, DS.i_int_bl, DS.i_bool_bl, DS.i_str_bl, DS.i_tuple_bl, DS.i_list_bl, DS.i_dict_bl, DS.i_lt_bl, DS.p_int, DS.i_int_int, DS.i_bool_int, DS.i_str_int, DS.i_tuple_int, DS.i_list_int, DS.i_dict_int, DS.i_lt_int, DS.p_str, DS.i_int_str, DS.i_bool_str, DS.i_str_str, DS.i_tuple_str, DS.i_list_str, DS.i_dict_str, DS.i_lt_str, DS.p_lst, DS.i_int_lst, DS.i_bool_lst, DS.i_str_lst, DS.i_tuple_lst, DS.i_list_lst, DS.i_dict_lst, DS.i_lt_lst, DS.p_tup, DS.i_int_tup, DS.i_bool_tup, DS.i_str_tup, DS.i_tuple_tup, DS.i_list_tup, DS.i_dict_tup, DS.i_lt_tup, DS.p_dct, DS.i_int_dct, DS.i_bool_dct, DS.i_str_dct, DS.i_tuple_dct, DS.i_list_dct, DS.i_dict_dct, DS.i_lt_dct, DS.ite_tt, DS.ite_ff, Bool.not_true, Bool.not_false, true_and]
      exact this
  | _ => simp only [DS.wSs, DS.wS, DS.wE, DS.wEs, DS.wAs, DS.wOI, DS.wCs, DS.asK, DS.tkD, DS.avIos, DS.putOs, DS.setAll, DS.opW, DS.bindT, DS.bindTs, DS.startE, DS.mTy, DS.ex_some, DS.ex_publ, DS.ex_int, DS.ex_int2, DS.ex_tup, DS.s_add1, DS.s_add2, DS.s_add3, DS.s_add4, DS.s_sub, DS.s_mul1, DS.s_mul2, DS.s_fdiv, DS.s_mod, DS.s_pow, DS.s_neg, DS.s_cmp1, DS.s_cmp2, DS.s_eq, DS.s_isN, DS.s_in1, DS.s_in2, DS.s_in3, DS.s_in4, DS.s_idx1, DS.s_idx2, DS.s_idx3, DS.s_idx4, DS.s_slc1, DS.s_slc2, DS.s_slc3, DS.s_slc4, DS.s_rev, DS.s_len1, DS.s_len2, DS.s_len3, DS.s_len4, DS.s_len5, DS.s_list1, DS.s_list2, DS.s_list3, DS.s_tuple1, DS.s_tuple2, DS.s_dict1, DS.s_dict2, DS.s_max2, DS.s_min2, DS.s_abs, DS.s_isi, DS.s_sum, DS.s_join, DS.s_upper, DS.s_items, DS.s_vals, DS.s_all, DS.s_str1, DS.s_str2, DS.s_str3, DS.s_int1, DS.s_int2, DS.s_get1, DS.s_get2, DS.s_dct0, DS.s_fz1, DS.s_fz2, DS.s_fz3, DS.s_bf1, DS.s_bf2, DS.s_bf3, DS.s_tr0, DS.s_tr1, DS.s_tr2, DS.s_tr3, DS.s_tr4, DS.s_tr5, DS.s_tr6, DS.s_av0, DS.s_av1, DS.s_av2, DS.s_ag0, DS.s_ag1, DS.s_ag2, DS.s_ty1, DS.s_ty2, DS.s_ty3, DS.s_ix0, DS.s_at0, DS.ex_cons, DS.s_dep1, DS.s_dep2, DS.s_dep3, DS.s_key1, DS.s_key2, DS.s_key3, DS.s_ot0, DS.ex_one, DS.s_ot1, DS.s_sq1, DS.s_sq2, DS.s_sq3, DS.s_sq4, DS.s_rg1, DS.s_rg2, DS.s_en, DS.s_it, DS.s_vl, List.map_cons, List.map_nil, List.cons_append, List.nil_append, List.length_cons, List.length_nil, List.replicate, Nat.add_one_sub_one, Nat.reduceAdd, Nat.reduceSub, List.append_nil, List.getElem?_cons_zero, List.getElem?_cons_succ, List.set_cons_zero, List.set_cons_succ, Option.map_some, Option.some.injEq, exists_eq_left', exists_eq', exists_eq_left, DS.O.pu.injEq, DS.O.fl.injEq, DS.O.fd.injEq, DS.wipeE, DS.backE, Option.getD_some, Option.getD_none, DS.D.bl.injEq, true_and, and_true, if_true, if_false, reduceCtorEq, Bool.false_eq_true, List.nodup_nil, List.nodup_cons, List.not_mem_nil, not_false_eq_true, exists_const, DS.s_at20, DS.s_at21, DS.s_at30, DS.s_at31, DS.s_at32, DS.s_revt, DS.p_non, DS.i_int_non, DS.i_bool_non, DS.i_str_non, DS.i_tuple_non, DS.i_list_non, DS.i_dict_non, DS.i_lt_non, DS.p_bl, DS.i_int_bl, DS.i_bool_bl, DS.i_str_bl, DS.i_tuple_bl, DS.i_list_bl, DS.i_dict_bl, DS.i_lt_bl, DS.p_int, DS.i_int_int, DS.i_bool_int, DS.i_str_int, DS.i_tuple_int, DS.i_list_int, DS.i_dict_int, DS.i_lt_int, DS.p_str, DS.i_int_str, DS.i_bool_str, DS.i_str_str, DS.i_tuple_str, DS.i_list_str, DS.i_dict_str, DS.i_lt_str, DS.p_lst, DS.i_int_lst, DS.i_bool_lst, DS.i_str_lst, DS.i_tuple_lst, DS.i_list_lst, DS.i_dict_lst, DS.i_lt_lst, DS.p_tup, DS.i_int_tup, DS.i_bool_tup, DS.i_str_tup, DS.i_tuple_tup, DS.i_list_tup, DS.i_dict_tup, DS.i_lt_tup, DS.p_dct, DS.i_int_dct, DS.i_bool_dct, DS.i_str_dct, DS.i_tuple_dct, DS.i_list_dct, DS.i_dict_dct, DS.i_lt_dct, DS.ite_tt, DS.ite_ff, Bool.not_true, Bool.not_false, true_and]; exact hk _
theorem isTerm_of {d : D} (h : isTerm d = true) : d = .non ∨ ∃ z, d = .str z ∧ isNmB z = true := by
  cases d <;> first | exact .inl rfl | exact .inr ⟨_, rfl, h⟩ | cases h
theorem r3_ok {Γ : Gam} (h18 : Γ 18 = fsName) {x : O} {l r b : D} (al : Askd l) (ar : Askd r) (ab : Askd b) (hl : isTerm l = true) (hr : isTerm r = true) {nx : Ev → Prop} {rt : O → Ev → Prop} {bk ct : Ev → Prop} {R : Xp → Ev → Prop}
    (hk : ∀ e, rt (.pu (.bl (!deq l r && isNum (-1000000000) 1000000000 b))) e) : wSs Γ r3 [some x, some (.pu l), some (.pu r), some (.pu b)] ⟨nx, rt, bk, ct⟩ R := by
  unfold r3
  have en : DS.isNon .non = true := rfl
  have es : ∀ z, DS.isNon (.str z) = false := fun _ => rfl
  rcases isTerm_of hl with rfl | ⟨z, rfl, hz⟩
  · rcases isTerm_of hr with rfl | ⟨y, rfl, hy⟩
    · simp only [DS.wSs, DS.wS, DS.wE, DS.wEs, DS.wAs, DS.wOI, DS.wCs, DS.asK, DS.tkD, DS.avIos, DS.putOs, DS.setAll, DS.opW, DS.bindT, DS.bindTs, DS.startE, DS.mTy, DS.ex_some, DS.ex_publ, DS.ex_int, DS.ex_int2, DS.ex_tup, DS.s_add1, DS.s_add2, DS.s_add3, DS.s_add4, DS.s_sub, DS.s_mul1, DS.s_mul2, DS.s_fdiv, DS.s_mod, DS.s_pow, DS.s_neg, DS.s_cmp1, DS.s_cmp2, DS.s_eq, DS.s_isN, DS.s_in1, DS.s_in2, DS.s_in3, DS.s_in4, DS.s_idx1, DS.s_idx2, DS.s_idx3, DS.s_idx4, DS.s_slc1, DS.s_slc2, DS.s_slc3, DS.s_slc4, DS.s_rev, DS.s_len1, DS.s_len2, DS.s_len3, DS.s_len4, DS.s_len5, DS.s_list1, DS.s_list2, DS.s_list3, DS.s_tuple1, DS.s_tuple2, DS.s_dict1, DS.s_dict2, DS.s_max2, DS.s_min2, DS.s_abs, DS.s_isi, DS.s_sum, DS.s_join, DS.s_upper, DS.s_items, DS.s_vals, DS.s_all, DS.s_str1, DS.s_str2, DS.s_str3, DS.s_int1, DS.s_int2, DS.s_get1, DS.s_get2, DS.s_dct0, DS.s_fz1, DS.s_fz2, DS.s_fz3, DS.s_bf1, DS.s_bf2, DS.s_bf3, DS.s_tr0, DS.s_tr1, DS.s_tr2, DS.s_tr3, DS.s_tr4, DS.s_tr5, DS.s_tr6, DS.s_av0, DS.s_av1, DS.s_av2, DS.s_ag0, DS.s_ag1, DS.s_ag2, DS.s_ty1, DS.s_ty2, DS.s_ty3, DS.s_ix0, DS.s_at0, DS.ex_cons, DS.s_dep1, DS.s_dep2, DS.s_dep3, DS.s_key1, DS.s_key2, DS.s_key3, DS.s_ot0, DS.ex_one, DS.s_ot1, DS.s_sq1, DS.s_sq2, DS.s_sq3, DS.s_sq4, DS.s_rg1, DS.s_rg2, DS.s_en, DS.s_it, DS.s_vl, List.map_cons, List.map_nil, List.cons_append, List.nil_append, List.length_cons, List.length_nil, List.replicate, Nat.add_one_sub_one, Nat.reduceAdd, Nat.reduceSub, List.append_nil, List.getElem?_cons_zero, List.getElem?_cons_succ, List.set_cons_zero, List.set_cons_succ, Option.map_some, Option.some.injEq, exists_eq_left', exists_eq', exists_eq_left, DS.O.pu.injEq, DS.O.fl.injEq, DS.O.fd.injEq, DS.wipeE, DS.backE, Option.getD_some, Option.getD_none, DS.D.bl.injEq, true_and, and_true, if_true, if_false, reduceCtorEq, Bool.false_eq_true, List.nodup_nil, List.nodup_cons, List.not_mem_nil, not_false_eq_true, exists_const, DS.s_at20, DS.s_at21, DS.s_at30, DS.s_at31, DS.s_at32, DS.s_revt, DS.p_non, DS.i_int_non, DS.i_bool_non, DS.i_str_non, DS.i_tuple_non, DS.i_list_non, DS.i_dict_non, DS.i_lt_non, DS.p_bl, DS.i_int_bl, DS.i_bool_bl, DS.i_str_bl, DS.i_tuple_bl, DS.i_list_bl, DS.i_dict_bl, DS.i_lt_bl, DS.p_int, DS.i_int_int, DS.i_bool_int, DS.i_str_int, DS.i_tuple_int, DS.i_list_int, DS.i_dict_int, DS.i_lt_int, DS.p_str, DS.i_int_str, DS.i_bool_str, DS.i_str_str, DS.i_tuple_str, DS.i_list_str, DS.i_dict_str, DS.i_lt_str, DS.p_lst, DS.i_int_lst, DS.i_bool_lst, DS.i_str_lst, DS.i_tuple_lst, DS.i_list_lst, DS.i_dict_lst, DS.i_lt_lst, DS.p_tup, DS.i_int_tup, DS.i_bool_tup, DS.i_str_tup, DS.i_tuple_tup, DS.i_list_tup, DS.i_dict_tup, DS.i_lt_tup, DS.p_dct, DS.i_int_dct, DS.i_bool_dct, DS.i_str_dct, DS.i_tuple_dct, DS.i_list_dct, DS.i_dict_dct, DS.i_lt_dct, DS.ite_tt, DS.ite_ff, Bool.not_true, Bool.not_false, true_and, en, tt]
      have e : (!deq D.non D.non && isNum (-1000000000) 1000000000 b) = false := rfl
      rw [e] at hk
      exact ⟨rfl, rfl, hk _⟩
    · simp only [DS.wSs, DS.wS, DS.wE, DS.wEs, DS.wAs, DS.wOI, DS.wCs, DS.asK, DS.tkD, DS.avIos, DS.putOs, DS.setAll, DS.opW, DS.bindT, DS.bindTs, DS.startE, DS.mTy, DS.ex_some, DS.ex_publ, DS.ex_int, DS.ex_int2, DS.ex_tup, DS.s_add1, DS.s_add2, DS.s_add3, DS.s_add4, DS.s_sub, DS.s_mul1, DS.s_mul2, DS.s_fdiv, DS.s_mod, DS.s_pow, DS.s_neg, DS.s_cmp1, DS.s_cmp2, DS.s_eq, DS.s_isN, DS.s_in1, DS.s_in2, DS.s_in3, DS.s_in4, DS.s_idx1, DS.s_idx2, DS.s_idx3, DS.s_idx4, DS.s_slc1, DS.s_slc2, DS.s_slc3, DS.s_slc4, DS.s_rev, DS.s_len1, DS.s_len2, DS.s_len3, DS.s_len4, DS.s_len5, DS.s_list1, DS.s_list2, DS.s_list3, DS.s_tuple1, DS.s_tuple2, DS.s_dict1, DS.s_dict2, DS.s_max2, DS.s_min2, DS.s_abs, DS.s_isi, DS.s_sum, DS.s_join, DS.s_upper, DS.s_items, DS.s_vals, DS.s_all, DS.s_str1, DS.s_str2, DS.s_str3, DS.s_int1, DS.s_int2, DS.s_get1, DS.s_get2, DS.s_dct0, DS.s_fz1, DS.s_fz2, DS.s_fz3, DS.s_bf1, DS.s_bf2, DS.s_bf3, DS.s_tr0, DS.s_tr1, DS.s_tr2, DS.s_tr3, DS.s_tr4, DS.s_tr5, DS.s_tr6, DS.s_av0, DS.s_av1, DS.s_av2, DS.s_ag0, DS.s_ag1, DS.s_ag2, DS.s_ty1, DS.s_ty2, DS.s_ty3, DS.s_ix0, DS.s_at0, DS.ex_cons, DS.s_dep1, DS.s_dep2, DS.s_dep3, DS.s_key1, DS.s_key2, DS.s_key3, DS.s_ot0, DS.ex_one, DS.s_ot1, DS.s_sq1, DS.s_sq2, DS.s_sq3, DS.s_sq4, DS.s_rg1, DS.s_rg2, DS.s_en, DS.s_it, DS.s_vl, List.map_cons, List.map_nil, List.cons_append, List.nil_append, List.length_cons, List.length_nil, List.replicate, Nat.add_one_sub_one, Nat.reduceAdd, Nat.reduceSub, List.append_nil, List.getElem?_cons_zero, List.getElem?_cons_succ, List.set_cons_zero, List.set_cons_succ, Option.map_some, Option.some.injEq, exists_eq_left', exists_eq', exists_eq_left, DS.O.pu.injEq, DS.O.fl.injEq, DS.O.fd.injEq, DS.wipeE, DS.backE, Option.getD_some, Option.getD_none, DS.D.bl.injEq, true_and, and_true, if_true, if_false, reduceCtorEq, Bool.false_eq_true, List.nodup_nil, List.nodup_cons, List.not_mem_nil, not_false_eq_true, exists_const, DS.s_at20, DS.s_at21, DS.s_at30, DS.s_at31, DS.s_at32, DS.s_revt, DS.p_non, DS.i_int_non, DS.i_bool_non, DS.i_str_non, DS.i_tuple_non, DS.i_list_non, DS.i_dict_non, DS.i_lt_non, DS.p_bl, DS.i_int_bl, DS.i_bool_bl, DS.i_str_bl, DS.i_tuple_bl, DS.i_list_bl, DS.i_dict_bl, DS.i_lt_bl, DS.p_int, DS.i_int_int, DS.i_bool_int, DS.i_str_int, DS.i_tuple_int, DS.i_list_int, DS.i_dict_int, DS.i_lt_int, DS.p_str, DS.i_int_str, DS.i_bool_str, DS.i_str_str, DS.i_tuple_str, DS.i_list_str, DS.i_dict_str, DS.i_lt_str, DS.p_lst, DS.i_int_lst, DS.i_bool_lst, DS.i_str_lst, DS.i_tuple_lst, DS.i_list_lst, DS.i_dict_lst, DS.i_lt_lst, DS.p_tup, DS.i_int_tup, DS.i_bool_tup, DS.i_str_tup, DS.i_tuple_tup, DS.i_list_tup, DS.i_dict_tup, DS.i_lt_tup, DS.p_dct, DS.i_int_dct, DS.i_bool_dct, DS.i_str_dct, DS.i_tuple_dct, DS.i_list_dct, DS.i_dict_dct, DS.i_lt_dct, DS.ite_tt, DS.ite_ff, Bool.not_true, Bool.not_false, true_and, en, es, tt, ft, h18]
      refine ⟨rfl, rfl, .non, rfl, al, rfl, _, rfl, ?_⟩
      have e : isName .non = false := rfl
      simp only [e, DS.wSs, DS.wS, DS.wE, DS.wEs, DS.wAs, DS.wOI, DS.wCs, DS.asK, DS.tkD, DS.avIos, DS.putOs, DS.setAll, DS.opW, DS.bindT, DS.bindTs, DS.startE, DS.mTy, DS.ex_some, DS.ex_publ, DS.ex_int, DS.ex_int2, DS.ex_tup, DS.s_add1, DS.s_add2, DS.s_add3, DS.s_add4, DS.s_sub, DS.s_mul1, DS.s_mul2, DS.s_fdiv, DS.s_mod, DS.s_pow, DS.s_neg, DS.s_cmp1, DS.s_cmp2, DS.s_eq, DS.s_isN, DS.s_in1, DS.s_in2, DS.s_in3, DS.s_in4, DS.s_idx1, DS.s_idx2, DS.s_idx3, DS.s_idx4, DS.s_slc1, DS.s_slc2, DS.s_slc3, DS.s_slc4, DS.s_rev, DS.s_len1, DS.s_len2, DS.s_len3, DS.s_len4, DS.s_len5, DS.s_list1, DS.s_list2, DS.s_list3, DS.s_tuple1, DS.s_tuple2, DS.s_dict1, DS.s_dict2, DS.s_max2, DS.s_min2, DS.s_abs, DS.s_isi, DS.s_sum, DS.s_join, DS.s_upper, DS.s_items, DS.s_vals, DS.s_all, DS.s_str1, DS.s_str2, DS.s_str3, DS.s_int1, DS.s_int2, DS.s_get1, DS.s_get2, DS.s_dct0, DS.s_fz1, DS.s_fz2, DS.s_fz3, DS.s_bf1, DS.s_bf2, DS.s_bf3, DS.s_tr0, DS.s_tr1, DS.s_tr2, DS.s_tr3, DS.s_tr4, DS.s_tr5, DS.s_tr6, DS.s_av0, DS.s_av1, DS.s_av2, DS.s_ag0, DS.s_ag1, DS.s_ag2, DS.s_ty1, DS.s_ty2, DS.s_ty3, DS.s_ix0, DS.s_at0, DS.ex_cons, DS.s_dep1, DS.s_dep2, DS.s_dep3, DS.s_key1, DS.s_key2, DS.s_key3, DS.s_ot0, DS.ex_one, DS.s_ot1, DS.s_sq1, DS.s_sq2, DS.s_sq3, DS.s_sq4, DS.s_rg1, DS.s_rg2, DS.s_en, DS.s_it, DS.s_vl, List.map_cons, List.map_nil, List.cons_append, List.nil_append, List.length_cons, List.length_nil, List.replicate, Nat.add_one_sub_one, Nat.reduceAdd, Nat.reduceSub, List.append_nil, List.getElem?_cons_zero, List.getElem?_cons_succ, List.set_cons_zero, List.set_cons_succ, Option.map_some, Option.some.injEq, exists_eq_left', exists_eq', exists_eq_left, DS.O.pu.injEq, DS.O.fl.injEq, DS.O.fd.injEq, DS.wipeE, DS.backE, Option.getD_some, Option.getD_none, DS.D.bl.injEq, true_and, and_true, if_true, if_false, reduceCtorEq, Bool.false_eq_true, List.nodup_nil, List.nodup_cons, List.not_mem_nil, not_false_eq_true, exists_const, DS.s_at20, DS.s_at21, DS.s_at30, DS.s_at31, DS.s_at32, DS.s_revt, DS.p_non, DS.i_int_non, DS.i_bool_non, DS.i_str_non, DS.i_tuple_non, DS.i_list_non, DS.i_dict_non, DS.i_lt_non, DS.p_bl, DS.i_int_bl, DS.i_bool_bl, DS.i_str_bl, DS.i_tuple_bl, DS.i_list_bl, DS.i_dict_bl, DS.i_lt_bl, DS.p_int, DS.i_int_int, DS.i_bool_int, DS.i_str_int, DS.i_tuple_int, DS.i_list_int, DS.i_dict_int, DS.i_lt_int, DS.p_str, DS.i_int_str, DS.i_bool_str, DS.i_str_str, DS.i_tuple_str, DS.i_list_str, DS.i_dict_str, DS.i_lt_str, DS.p_lst, DS.i_int_lst, DS.i_bool_lst, DS.i_str_lst, DS.i_tuple_lst, DS.i_list_lst, DS.i_dict_lst, DS.i_lt_lst, DS.p_tup, DS.i_int_tup, DS.i_bool_tup, DS.i_str_tup, DS.i_tuple_tup, DS.i_list_tup, DS.i_dict_tup, DS.i_lt_tup, DS.p_dct, DS.i_int_dct, DS.i_bool_dct, DS.i_str_dct, DS.i_tuple_dct, DS.i_list_dct, DS.i_dict_dct, DS.i_lt_dct, DS.ite_tt, DS.ite_ff, Bool.not_true, Bool.not_false, true_and]
      have e : (!deq D.non (.str y) && isNum (-1000000000) 1000000000 b) = isNum (-1000000000) 1000000000 b := rfl
      rw [e] at hk
      exact r4_ok ab hk
  · simp only [DS.wSs, DS.wS, DS.wE, DS.wEs, DS.wAs, DS.wOI, DS.wCs, DS.asK, DS.tkD, DS.avIos, DS.putOs, DS.setAll, DS.opW, DS.bindT, DS.bindTs, DS.startE, DS.mTy, DS.ex_some, DS.ex_publ, DS.ex_int, DS.ex_int2, DS.ex_tup, DS.s_add1, DS.s_add2, DS.s_add3, DS.s_add4, DS.s_sub, DS.s_mul1, DS.s_mul2, DS.s_fdiv, DS.s_mod, DS.s_pow, DS.s_neg, DS.s_cmp1, DS.s_cmp2, DS.s_eq, DS.s_isN, DS.s_in1, DS.s_in2, DS.s_in3, DS.s_in4, DS.s_idx1, DS.s_idx2, DS.s_idx3, DS.s_idx4, DS.s_slc1, DS.s_slc2, DS.s_slc3, DS.s_slc4, DS.s_rev, DS.s_len1, DS.s_len2, DS.s_len3, DS.s_len4, DS.s_len5, DS.s_list1, DS.s_list2, DS.s_list3, DS.s_tuple1, DS.s_tuple2, DS.s_dict1, DS.s_dict2, DS.s_max2, DS.s_min2, DS.s_abs, DS.s_isi, DS.s_sum, DS.s_join, DS.s_upper, DS.s_items, DS.s_vals, DS.s_all, DS.s_str1, DS.s_str2, DS.s_str3, DS.s_int1, DS.s_int2, DS.s_get1, DS.s_get2, DS.s_dct0, DS.s_fz1, DS.s_fz2, DS.s_fz3, DS.s_bf1, DS.s_bf2, DS.s_bf3, DS.s_tr0, DS.s_tr1, DS.s_tr2, DS.s_tr3, DS.s_tr4, DS.s_tr5, DS.s_tr6, DS.s_av0, DS.s_av1, DS.s_av2, DS.s_ag0, DS.s_ag1, DS.s_ag2, DS.s_ty1, DS.s_ty2, DS.s_ty3, DS.s_ix0, DS.s_at0, DS.ex_cons, DS.s_dep1, DS.s_dep2, DS.s_dep3, DS.s_key1, DS.s_key2, DS.s_key3, DS.s_ot0, DS.ex_one, DS.s_ot1, DS.s_sq1, DS.s_sq2, DS.s_sq3, DS.s_sq4, DS.s_rg1, DS.s_rg2, DS.s_en, DS.s_it, DS.s_vl, List.map_cons, List.map_nil, List.cons_append, List.nil_append, List.length_cons, List.length_nil, List.replicate, Nat.add_one_sub_one, Nat.reduceAdd, Nat.reduceSub, List.append_nil, List.getElem?_cons_zero, List.getElem?_cons_succ, List.set_cons_zero, List.set_cons_succ, Option.map_some, Option.some.injEq, exists_eq_left', exists_eq', exists_eq_left, DS.O.pu.injEq, DS.O.fl.injEq, DS.O.fd.injEq, DS.wipeE, DS.backE, Option.getD_some, Option.getD_none, DS.D.bl.injEq, true_and, and_true, if_true, if_false, reduceCtorEq, Bool.false_eq_true, List.nodup_nil, List.nodup_cons, List.not_mem_nil, not_false_eq_true, exists_const, DS.s_at20, DS.s_at21, DS.s_at30, DS.s_at31, DS.s_at32, DS.s_revt, DS.p_non, DS.i_int_non, DS.i_bool_non, DS.i_str_non, DS.i_tuple_non, DS.i_list_non, DS.i_dict_non, DS.i_lt_non, DS.p_bl, DS.i_int_bl, DS.i_bool_bl, DS.i_str_bl, DS.i_tuple_bl, DS.i_list_bl, DS.i_dict_bl, DS.i_lt_bl, DS.p_int, DS.i_int_int, DS.i_bool_int, DS.i_str_int, DS.i_tuple_int, DS.i_list_int, DS.i_dict_int, DS.i_lt_int, DS.p_str, DS.i_int_str, DS.i_bool_str, DS.i_str_str, DS.i_tuple_str, DS.i_list_str, DS.i_dict_str, DS.i_lt_str, DS.p_lst, DS.i_int_lst, DS.i_bool_lst, DS.i_str_lst, DS.i_tuple_lst, DS.i_list_lst, DS.i_dict_lst, DS.i_lt_lst, DS.p_tup, DS.i_int_tup, DS.i_bool_tup, DS.i_str_tup, DS.i_tuple_tup, DS.i_list_tup, DS.i_dict_tup, DS.i_lt_tup, DS.p_dct, DS.i_int_dct, DS.i_bool_dct, DS.i_str_dct, DS.i_tuple_dct, DS.i_list_dct, DS.i_dict_dct, DS.i_lt_dct, DS.ite_tt, DS.ite_ff, Bool.not_true, Bool.not_false, true_and, es, ft, h18]
    refine ⟨rfl, .str z, rfl, al, rfl, _, rfl, ?_⟩
    have e : isName (.str z) = true := hz
    simp only [e, DS.wSs, DS.wS, DS.wE, DS.wEs, DS.wAs, DS.wOI, DS.wCs, DS.asK, DS.tkD, DS.avIos, DS.putOs, DS.setAll, DS.opW, DS.bindT, DS.bindTs, DS.startE, DS.mTy, DS.ex_some, DS.ex_publ, DS.ex_int, DS.ex_int2, DS.ex_tup, DS.s_add1, DS.s_add2, DS.s_add3, DS.s_add4, DS.s_sub, DS.s_mul1, DS.s_mul2, DS.s_fdiv, DS.s_mod, DS.s_pow, DS.s_neg, DS.s_cmp1, DS.s_cmp2, DS.s_eq, DS.s_isN, DS.s_in1, DS.s_in2, DS.s_in3, DS.s_in4, DS.s_idx1, DS.s_idx2, DS.s_idx3, DS.s_idx4, DS.s_slc1, DS.s_slc2, DS.s_slc3, DS.s_slc4, DS.s_rev, DS.s_len1, DS.s_len2, DS.s_len3, DS.s_len4, DS.s_len5, DS.s_list1, DS.s_list2, DS.s_list3, DS.s_tuple1, DS.s_tuple2, DS.s_dict1, DS.s_dict2, DS.s_max2, DS.s_min2, DS.s_abs, DS.s_isi, DS.s_sum, DS.s_join, DS.s_upper, DS.s_items, DS.s_vals, DS.s_all, DS.s_str1, DS.s_str2, DS.s_str3, DS.s_int1, DS.s_int2, DS.s_get1, DS.s_get2, DS.s_dct0, DS.s_fz1, DS.s_fz2, DS.s_fz3, DS.s_bf1, DS.s_bf2, DS.s_bf3, DS.s_tr0, DS.s_tr1, DS.s_tr2, DS.s_tr3, DS.s_tr4, DS.s_tr5, DS.s_tr6, DS.s_av0, DS.s_av1, DS.s_av2, DS.s_ag0, DS.s_ag1, DS.s_ag2, DS.s_ty1, DS.s_ty2, DS.s_ty3, DS.s_ix0, DS.s_at0, DS.ex_cons, DS.s_dep1, DS.s_dep2, DS.s_dep3, DS.s_key1, DS.s_key2, DS.s_key3, DS.s_ot0, DS.ex_one, DS.s_ot1, DS.s_sq1, DS.s_sq2, DS.s_sq3, DS.s_sq4, DS.s_rg1, DS.s_rg2, DS.s_en, DS.s_it, DS.s_vl, List.map_cons, List.map_nil, List.cons_append, List.nil_append, List.length_cons, List.length_nil, List.replicate, Nat.add_one_sub_one, Nat.reduceAdd, Nat.reduceSub, List.append_nil, List.getElem?_cons_zero, List.getElem?_cons_succ, List.set_cons_zero, List.set_cons_succ, Option.map_some, Option.some.injEq, exists_eq_left', exists_eq', exists_eq_left, DS.O.pu.injEq, DS.O.fl.injEq, DS.O.fd.injEq, DS.wipeE, DS.backE, Option.getD_some, Option.getD_none, DS.D.bl.injEq, true_and, and_true, if_true, if_false, reduceCtorEq, Bool.false_eq_true, List.nodup_nil, List.nodup_cons, List.not_mem_nil, not_false_eq_true, exists_const, DS.s_at20, DS.s_at21, DS.s_at30, DS.s_at31, DS.s_at32, DS.s_revt, DS.p_non, DS.i_int_non, DS.i_bool_non, DS.i_str_non, DS.i_tuple_non, DS.i_list_non, DS.i_dict_non, DS.i_lt_non, DS.p_bl, DS.i_int_bl, DS.i_bool_bl, DS.i_str_bl, DS.i_tuple_bl, DS.i_list_bl, DS.i_dict_bl, DS.i_lt_bl, DS.p_int, DS.i_int_int, DS.i_bool_int, DS.i_str_int, DS.i_tuple_int, DS.i_list_int, DS.i_dict_int, DS.i_lt_int, DS.p_str, DS.i_int_str, DS.i_bool_str, DS.i_str_str, DS.i_tuple_str, DS.i_list_str, DS.i_dict_str, DS.i_lt_str, DS.p_lst, DS.i_int_lst, DS.i_bool_lst, DS.i_str_lst, DS.i_tuple_lst, DS.i_list_lst, DS.i_dict_lst, DS.i_lt_lst, DS.p_tup, DS.i_int_tup, DS.i_bool_tup, DS.i_str_tup, DS.i_tuple_tup, DS.i_list_tup, DS.i_dict_tup, DS.i_lt_tup, DS.p_dct, DS.i_int_dct, DS.i_bool_dct, DS.i_str_dct, DS.i_tuple_dct, DS.i_list_dct, DS.i_dict_dct, DS.i_lt_dct, DS.ite_tt, DS.ite_ff, Bool.not_true, Bool.not_false, true_and]
    refine ⟨r, rfl, ar, rfl, _, rfl, ?_⟩
    rcases isTerm_of hr with rfl | ⟨y, rfl, hy⟩
    · have e : isName .non = false := rfl
      simp only [e, DS.wSs, DS.wS, DS.wE, DS.wEs, DS.wAs, DS.wOI, DS.wCs, DS.asK, DS.tkD, DS.avIos, DS.putOs, DS.setAll, DS.opW, DS.bindT, DS.bindTs, DS.startE, DS.mTy, DS.ex_some, DS.ex_publ, DS.ex_int, DS.ex_int2, DS.ex_tup, DS.s_add1, DS.s_add2, DS.s_add3, DS.s_add4, DS.s_sub, DS.s_mul1, DS.s_mul2, DS.s_fdiv, DS.s_mod, DS.s_pow, DS.s_neg, DS.s_cmp1, DS.s_cmp2, DS.s_eq, DS.s_isN, DS.s_in1, DS.s_in2, DS.s_in3, DS.s_in4, DS.s_idx1, DS.s_idx2, DS.s_idx3, DS.s_idx4, DS.s_slc1, DS.s_slc2, DS.s_slc3, DS.s_slc4, DS.s_rev, DS.s_len1, DS.s_len2, DS.s_len3, DS.s_len4, DS.s_len5, DS.s_list1, DS.s_list2, DS.s_list3, DS.s_tuple1, DS.s_tuple2, DS.s_dict1, DS.s_dict2, DS.s_max2, DS.s_min2, DS.s_abs, DS.s_isi, DS.s_sum, DS.s_join, DS.s_upper, DS.s_items, DS.s_vals, DS.s_all, DS.s_str1, DS.s_str2, DS.s_str3, DS.s_int1, DS.s_int2, DS.s_get1, DS.s_get2, DS.s_dct0, DS.s_fz1, DS.s_fz2, DS.s_fz3, DS.s_bf1, DS.s_bf2, DS.s_bf3, DS.s_tr0, DS.s_tr1, DS.s_tr2, DS.s_tr3, DS.s_tr4, DS.s_tr5, DS.s_tr6, DS.s_av0, DS.s_av1, DS.s_av2, DS.s_ag0, DS.s_ag1, DS.s_ag2, DS.s_ty1, DS.s_ty2, DS.s_ty3, DS.s_ix0, DS.s_at0, DS.ex_cons, DS.s_dep1, DS.s_dep2, DS.s_dep3, DS.s_key1, DS.s_key2, DS.s_key3, DS.s_ot0, DS.ex_one, DS.s_ot1, DS.s_sq1, DS.s_sq2, DS.s_sq3, DS.s_sq4, DS.s_rg1, DS.s_rg2, DS.s_en, DS.s_it, DS.s_vl, List.map_cons, List.map_nil, List.cons_append, List.nil_append, List.length_cons, List.length_nil, List.replicate, Nat.add_one_sub_one, Nat.reduceAdd, Nat.reduceSub, List.append_nil, List.getElem?_cons_zero, List.getElem?_cons_succ, List.set_cons_zero, List.set_cons_succ, Option.map_some, Option.some.injEq, exists_eq_left', exists_eq', exists_eq_left, DS.O.pu.injEq, DS.O.fl.injEq, DS.O.fd.injEq, DS.wipeE, DS.backE, Option.getD_some, Option.getD_none, DS.D.bl.injEq, true_and, and_true, if_true, if_false, reduceCtorEq, Bool.false_eq_true, List.nodup_nil, List.nodup_cons, List.not_mem_nil, not_false_eq_true, exists_const, DS.s_at20, DS.s_at21, DS.s_at30, DS.s_at31, DS.s_at32, DS.s_revt, DS.p_non, DS.i_int_non, DS.i_bool_non, DS.i_str_non, DS.i_tuple_non, DS.i_list_non, DS.i_dict_non, DS.i_lt_non, DS.p_bl, DS.i_int_bl, DS.i_bool_bl, DS.i_str_bl, DS.i_tuple_bl, DS.i_list_bl, DS.i_dict_bl, DS.i_lt_bl, DS.p_int, DS.i_int_int, DS.i_bool_int, DS.i_str_int, DS.i_tuple_int, DS.i_list_int, DS.i_dict_int, DS.i_lt_int, DS.p_str, DS.i_int_str, DS.i_bool_str, DS.i_str_str, DS.i_tuple_str, DS.i_list_str, DS.i_dict_str, DS.i_lt_str, DS.p_lst, DS.i_int_lst, DS.i_bool_lst, DS.i_str_lst, DS.i_tuple_lst, DS.i_list_lst, DS.i_dict_lst, DS.i_lt_lst, DS.p_tup, DS.i_int_tup, DS.i_bool_tup, DS.i_str_tup, DS.i_tuple_tup, DS.i_list_tup, DS.i_dict_tup, DS.i_lt_tup, DS.p_dct, DS.i_int_dct, DS.i_bool_dct, DS.i_str_dct, DS.i_tuple_dct, DS.i_list_dct, DS.i_dict_dct, DS.i_lt_dct, DS.ite_tt, DS.ite_ff, Bool.not_true, Bool.not_false, true_and]
      have e : (!deq (.str z) D.non && isNum (-1000000000) 1000000000 b) = isNum (-1000000000) 1000000000 b := rfl
      rw [e] at hk
      exact r4_ok ab hk
    · have e : isName (.str y) = true := hy
      simp only [e, DS.wSs, DS.wS, DS.wE, DS.wEs, DS.wAs, DS.wOI, DS.wCs, DS.asK, DS.tkD, DS.avIos, DS.putOs, DS.setAll, DS.opW, DS.bindT, DS.bindTs, DS.startE, DS.mTy, DS.ex_some, DS.ex_publ, DS.ex_int, DS.ex_int2, DS.ex_tup, DS.s_add1, DS.s_add2, DS.s_add3, DS.s_add4, DS.s_sub, DS.s_mul1, DS.s_mul2, DS.s_fdiv, DS.s_mod, DS.s_pow, DS.s_neg, DS.s_cmp1, DS.s_cmp2, DS.s_eq, DS.s_isN, DS.s_in1, DS.s_in2, DS.s_in3, DS.s_in4, DS.s_idx1, DS.s_idx2, DS.s_idx3, DS.s_idx4, DS.s_slc1, DS.s_slc2, DS.s_slc3, DS.s_slc4, DS.s_rev, DS.s_len1, DS.s_len2, DS.s_len3, DS.s_len4, DS.s_len5, DS.s_list1, DS.s_list2, DS.s_list3, DS.s_tuple1, DS.s_tuple2, DS.s_dict1, DS.s_dict2, DS.s_max2, DS.s_min2, DS.s_abs, DS.s_isi, DS.s_sum, DS.s_join, DS.s_upper, DS.s_items, DS.s_vals, DS.s_all, DS.s_str1, DS.s_str2, DS.s_str3, DS.s_int1, DS.s_int2, DS.s_get1, DS.s_get2, DS.s_dct0, DS.s_fz1, DS.s_fz2, DS.s_fz3, DS.s_bf1, DS.s_bf2, DS.s_bf3, DS.s_tr0, DS.s_tr1, DS.s_tr2, DS.s_tr3, DS.s_tr4, DS.s_tr5, DS.s_tr6, DS.s_av0, DS.s_av1, DS.s_av2, DS.s_ag0, DS.s_ag1, DS.s_ag2, DS.s_ty1, DS.s_ty2, DS.s_ty3, DS.s_ix0, DS.s_at0, DS.ex_cons, DS.s_dep1, DS.s_dep2, DS.s_dep3, DS.s_key1, DS.s_key2, DS.s_key3, DS.s_ot0, DS.ex_one, DS.s_ot1, DS.s_sq1, DS.s_sq2, DS.s_sq3, DS.s_sq4, DS.s_rg1, DS.s_rg2, DS.s_en, DS.s_it, DS.s_vl, List.map_cons, List.map_nil, List.cons_append, List.nil_append, List.length_cons, List.length_nil, List.replicate, Nat.add_one_sub_one, Nat.reduceAdd, Nat.reduceSub, List.append_nil, List.getElem?_cons_zero, List.getElem?_cons_succ, List.set_cons_zero, List.set_cons_succ, Option.map_some, Option.some.injEq, exists_eq_left', exists_eq', exists_eq_left, DS.O.pu.injEq, DS.O.fl.injEq, DS.O.fd.injEq, DS.wipeE, DS.backE, Option.getD_some, Option.getD_none, DS.D.bl.injEq, true_and, and_true, if_true, if_false, reduceCtorEq, Bool.false_eq_true, List.nodup_nil, List.nodup_cons, List.not_mem_nil, not_false_eq_true, exists_const, DS.s_at20, DS.s_at21, DS.s_at30, DS.s_at31, DS.s_at32, DS.s_revt, DS.p_non, DS.i_int_non, DS.i_bool_non, DS.i_str_non, DS.i_tuple_non, DS.i_list_non, DS.i_dict_non, DS.i_lt_non, DS.p_bl, DS.i_int_bl, DS.i_bool_bl, DS.i_str_bl, DS.i_tuple_bl, DS.i_list_bl, DS.i_dict_bl, DS.i_lt_bl, DS.p_int, DS.i_int_int, DS.i_bool_int, DS.i_str_int, DS.i_tuple_int, DS.i_list_int, DS.i_dict_int, DS.i_lt_int, DS.p_str, DS.i_int_str, DS.i_bool_str, DS.i_str_str, DS.i_tuple_str, DS.i_list_str, DS.i_dict_str, DS.i_lt_str, DS.p_lst, DS.i_int_lst, DS.i_bool_lst, DS.i_str_lst, DS.i_tuple_lst, DS.i_list_lst, DS.i_dict_lst, DS.i_lt_lst, DS.p_tup, DS.i_int_tup, DS.i_bool_tup, DS.i_str_tup, DS.i_tuple_tup, DS.i_list_tup, DS.i_dict_tup, DS.i_lt_tup, DS.p_dct, DS.i_int_dct, DS.i_bool_dct, DS.i_str_dct, DS.i_tuple_dct, DS.i_list_dct, DS.i_dict_dct, DS.i_lt_dct, DS.ite_tt, DS.ite_ff, Bool.not_true, Bool.not_false, true_and]
      refine ⟨cmp_terms hl hr, ?_⟩
      by_cases he : deq (.str z) (.str y) = true
      · rw [he] at hk
        simp only [he, DS.wSs, DS.wS, DS.wE, DS.wEs, DS.wAs, DS.wOI, DS.wCs, DS.asK, DS.tkD, DS.avIos, DS.putOs, DS.setAll, DS.opW, DS.bindT, DS.bindTs, DS.startE, DS.mTy, DS.ex_some, DS.ex_publ, DS.ex_int, DS.ex_int2, DS.ex_tup, DS.s_add1, DS.s_add2, DS.s_add3, DS.s_add4, DS.s_sub, DS.s_mul1, DS.s_mul2, DS.s_fdiv, DS.s_mod, DS.s_pow, DS.s_neg, DS.s_cmp1, DS.s_cmp2, DS.s_eq, DS.s_isN, DS.s_in1, DS.s_in2, DS.s_in3, DS.s_in4, DS.s_idx1, DS.s_idx2, DS.s_idx3, DS.s_idx4, DS.s_slc1, DS.s_slc2, DS.s_slc3, DS.s_slc4, DS.s_rev, DS.s_len1, DS.s_len2, DS.s_len3, DS.s_len4, DS.s_len5, DS.s_list1, DS.s_list2, DS.s_list3, DS.s_tuple1, DS.s_tuple2, DS.s_dict1, DS.s_dict2, DS.s_max2, DS.s_min2, DS.s_abs, DS.s_isi, DS.s_sum, DS.s_join, DS.s_upper, DS.s_items, DS.s_vals, DS.s_all, DS.s_str1, DS.s_str2, DS.s_str3, DS.s_int1, DS.s_int2, DS.s_get1, DS.s_get2, DS.s_dct0, DS.s_fz1, DS.s_fz2, DS.s_fz3, DS.s_bf1, DS.s_bf2, DS.s_bf3, DS.s_tr0, DS.s_tr1, DS.s_tr2, DS.s_tr3, DS.s_tr4, DS.s_tr5, DS.s_tr6, DS.s_av0, DS.s_av1, DS.s_av2, DS.s_ag0, DS.s_ag1, DS.s_ag2, DS.s_ty1, DS.s_ty2, DS.s_ty3, DS.s_ix0, DS.s_at0, DS.ex_cons, DS.s_dep1, DS.s_dep2, DS.s_dep3, DS.s_key1, DS.s_key2, DS.s_key3, DS.s_ot0, DS.ex_one, DS.s_ot1, DS.s_sq1, DS.s_sq2, DS.s_sq3, DS.s_sq4, DS.s_rg1, DS.s_rg2, DS.s_en, DS.s_it, DS.s_vl, List.map_cons, List.map_nil, List.cons_append, List.nil_append, List.length_cons, List.length_nil, List.replicate, Nat.add_one_sub_one, Nat.reduceAdd, Nat.reduceSub, List.append_nil, List.getElem?_cons_zero, List.getElem?_cons_succ, List.set_cons_zero, List.set_cons_succ, Option.map_some, Option.some.injEq, exists_eq_left', exists_eq', exists_eq_left, DS.O.pu.injEq, DS.O.fl.injEq, DS.O.fd.injEq, DS.wipeE, DS.backE, Option.getD_some, Option.getD_none, DS.D.bl.injEq, true_and, and_true, if_true, if_false, reduceCtorEq, Bool.false_eq_true, List.nodup_nil, List.nodup_cons, List.not_mem_nil, not_false_eq_true, exists_const, DS.s_at20, DS.s_at21, DS.s_at30, DS.s_at31, DS.s_at32, DS.s_revt, DS.p_non, DS.i_int_non, DS.i_bool_non, DS.i_str_non, DS.i_tuple_non, DS.i_list_non, DS.i_dict_non, DS.i_lt_non, DS.p_bl, DS.i_int_bl, DS.i_bool_bl, DS.i_str_bl, DS.i_tuple_bl, DS.i_list_bl, DS.i_dict_bl, DS.i_lt_bl, DS.p_int, DS.i_int_int, DS.i_bool_int, DS.i_str_int, DS.i_tuple_int, DS.i_list_int, DS.i_dict_int, DS.i_lt_int, DS.p_str, DS.i_int_str, DS.i_bool_str, DS.i_str_str, DS.i_tuple_str, DS.i_list_str, DS.i_dict_str, DS.i_lt_str, DS.p_lst, DS.i_int_lst, DS.i_bool_lst, DS.i_str_lst, DS.i_tuple_lst, DS.i_list_lst, DS.i_dict_lst, DS.i_lt_lst, DS.p_tup, DS.i_int_tup, DS.i_bool_tup, DS.i_str_tup, DS.i_tuple_tup, DS.i_list_tup, DS.i_dict_tup, DS.i_lt_tup, DS.p_dct, DS.i_int_dct, DS.i_bool_dct, DS.i_str_dct, DS.i_tuple_dct, DS.i_list_dct, DS.i_dict_dct, DS.i_lt_dct, DS.ite_tt, DS.ite_ff, Bool.not_true, Bool.not_false, true_and, tt]
        exact hk _
      · have he : deq (.str z) (.str y) = false := by simpa using he
        rw [he] at hk
        simp only [he, DS.wSs, DS.wS, DS.wE, DS.wEs, DS.wAs, DS.wOI, DS.wCs, DS.asK, DS.tkD, DS.avIos, DS.putOs, DS.setAll, DS.opW, DS.bindT, DS.bindTs, DS.startE, DS.mTy, DS.ex_some, DS.ex_publ, DS.ex_int, DS.ex_int2, DS.ex_tup, DS.s_add1, DS.s_add2, DS.s_add3, DS.s_add4, DS.s_sub, DS.s_mul1, DS.s_mul2, DS.s_fdiv, DS.s_mod, DS.s_pow, DS.s_neg, DS.s_cmp1, DS.s_cmp2, DS.s_eq, DS.s_isN, DS.s_in1, DS.s_in2, DS.s_in3, DS.s_in4, DS.s_idx1, DS.s_idx2, DS.s_idx3, DS.s_idx4, DS.s_slc1, DS.s_slc2, DS.s_slc3, DS.s_slc4, DS.s_rev, DS.s_len1, DS.s_len2, DS.s_len3, DS.s_len4, DS.s_len5, DS.s_list1, DS.s_list2, DS.s_list3, DS.s_tuple1, DS.s_tuple2, DS.s_dict1, DS.s_dict2, DS.s_max2, DS.s_min2, DS.s_abs, DS.s_isi, DS.s_sum, DS.s_join, DS.s_upper, DS.s_items, DS.s_vals, DS.s_all, DS.s_str1, DS.s_str2, DS.s_str3, DS.s_int1, DS.s_int2, DS.s_get1, DS.s_get2, DS.s_dct0, DS.s_fz1, DS.s_fz2, DS.s_fz3, DS.s_bf1, DS.s_bf2, DS.s_bf3, DS.s_tr0, DS.s_tr1, DS.s_tr2, DS.s_tr3, DS.s_tr4, DS.s_tr5, DS.s_tr6, DS.s_av0, DS.s_av1, DS.s_av2, DS.s_ag0, DS.s_ag1, DS.s_ag2, DS.s_ty1, DS.s_ty2, DS.s_ty3, DS.s_ix0, DS.s_at0, DS.ex_cons, DS.s_dep1, DS.s_dep2, DS.s_dep3, DS.s_key1, DS.s_key2, DS.s_key3, DS.s_ot0, DS.ex_one, DS.s_ot1, DS.s_sq1, DS.s_sq2, DS.s_sq3, DS.s_sq4, DS.s_rg1, DS.s_rg2, DS.s_en, DS.s_it, DS.s_vl, List.map_cons, List.map_nil, List.cons_append, List.nil_append, List.length_cons, List.length_nil, List.replicate, Nat.add_one_sub_one, Nat.reduceAdd, Nat.reduceSub, List.append_nil, List.getElem?_cons_zero, List.getElem?_cons_succ, List.set_cons_zero, List.set_cons_succ, Option.map_some, Option.some.injEq, exists_eq_left', exists_eq', exists_eq_left, DS.O.pu.injEq, DS.O.fl.injEq, DS.O.fd.injEq, DS.wipeE, DS.backE, Option.getD_some, Option.getD_none, DS.D.bl.injEq, true_and, and_true, if_true, if_false, reduceCtorEq, Bool.false_eq_true, List.nodup_nil, List.nodup_cons, List.not_mem_nil, not_false_eq_true, exists_const, DS.s_at20, DS.s_at21, DS.s_at30, DS.s_at31, DS.s_at32, DS.s_revt, DS.p_non, DS.i_int_non, DS.i_bool_non, DS.i_str_non, DS.i_tuple_non, DS.i_list_non, DS.i_dict_non, DS.i_lt_non, DS.p_bl, DS.i_int_bl, DS.i_bool_bl, DS.i_str_bl, DS.i_tuple_bl, DS.i_list_bl, DS.i_dict_bl, DS.i_lt_bl, DS.p_int, DS.i_int_int, DS.i_bool_int, DS.i_str_int, DS.i_tuple_int, DS.i_list_int, DS.i_dict_int, DS.i_lt_int, DS.p_str, DS.i_int_str, DS.i_bool_str, DS.i_str_str, DS.i_tuple_str, DS.i_list_str, DS.i_dict_str, DS.i_lt_str, DS.p_lst, DS.i_int_lst, DS.i_bool_lst, DS.i_str_lst, DS.i_tuple_lst, DS.i_list_lst, DS.i_dict_lst, DS.i_lt_lst, DS.p_tup, DS.i_int_tup, DS.i_bool_tup, DS.i_str_tup, DS.i_tuple_tup, DS.i_list_tup, DS.i_dict_tup, DS.i_lt_tup, DS.p_dct, DS.i_int_dct, DS.i_bool_dct, DS.i_str_dct, DS.i_tuple_dct, DS.i_list_dct, DS.i_dict_dct, DS.i_lt_dct, DS.ite_tt, DS.ite_ff, Bool.not_true, Bool.not_false, true_and, ft]
        exact r4_ok ab hk
theorem isTerm_not {d : D} (hn : DS.isNon d = false) : isTerm d = isName d := by
  cases d <;> first | rfl | cases hn
theorem noVal_of {d : D} (h : Askd d) : noVal d = true := by
  cases d <;> first | rfl | cases h
theorem isNon_term {d : D} (hn : DS.isNon d = true) : isTerm d = true := by
  cases d <;> first | rfl | cases hn
theorem r2_ok {Γ : Gam} (h18 : Γ 18 = fsName) {x : O} {l r b : D} (al : Askd l) (ar : Askd r) (ab : Askd b) {nx : Ev → Prop} {rt : O → Ev → Prop} {bk ct : Ev → Prop} {R : Xp → Ev → Prop}
    (hk : ∀ e, rt (.pu (.bl (isTerm l && isTerm r && !deq l r && isNum (-1000000000) 1000000000 b))) e) : wSs Γ r2 [some x, some (.pu l), some (.pu r), some (.pu b)] ⟨nx, rt, bk, ct⟩ R := by
  unfold r2
  simp only [DS.wSs, DS.wS, DS.wE, DS.wEs, DS.wAs, DS.wOI, DS.wCs, DS.asK, DS.tkD, DS.avIos, DS.putOs, DS.setAll, DS.opW, DS.bindT, DS.bindTs, DS.startE, DS.mTy, DS.ex_some, DS.ex_publ, DS.ex_int, DS.ex_int2, DS.ex_tup, DS.s_add1, DS.s_add2, DS.s_add3, DS.s_add4, DS.s_sub, DS.s_mul1, DS.s_mul2, DS.s_fdiv, DS.s_mod, DS.s_pow, DS.s_neg, DS.s_cmp1, DS.s_cmp2, DS.s_eq, DS.s_isN, DS.s_in1, DS.s_in2, DS.s_in3, DS.s_in4, DS.s_idx1, DS.s_idx2, DS.s_idx3, DS.s_idx4, DS.s_slc1, DS.s_slc2, DS.s_slc3, DS.s_slc4, DS.s_rev, DS.s_len1, DS.s_len2, DS.s_len3, DS.s_len4, DS.s_len5, DS.s_list1, DS.s_list2, DS.s_list3, DS.s_tuple1, DS.s_tuple2, DS.s_dict1, DS.s_dict2, DS.s_max2, DS.s_min2, DS.s_abs, DS.s_isi, DS.s_sum, DS.s_join, DS.s_upper, DS.s_items, DS.s_vals, DS.s_all, DS.s_str1, DS.s_str2, DS.s_str3, DS.s_int1, DS.s_int2, DS.s_get1, DS.s_get2, DS.s_dct0, DS.s_fz1, DS.s_fz2, DS.s_fz3, DS.s_bf1, DS.s_bf2, DS.s_bf3, DS.s_tr0, DS.s_tr1, DS.s_tr2, DS.s_tr3, DS.s_tr4, DS.s_tr5, DS.s_tr6, DS.s_av0, DS.s_av1, DS.s_av2, DS.s_ag0, DS.s_ag1, DS.s_ag2, DS.s_ty1, DS.s_ty2, DS.s_ty3, DS.s_ix0, DS.s_at0, DS.ex_cons, DS.s_dep1, DS.s_dep2, DS.s_dep3, DS.s_key1, DS.s_key2, DS.s_key3, DS.s_ot0, DS.ex_one, DS.s_ot1, DS.s_sq1, DS.s_sq2, DS.s_sq3, DS.s_sq4, DS.s_rg1, DS.s_rg2, DS.s_en, DS.s_it, DS.s_vl, List.map_cons, List.map_nil, List.cons_append, List.nil_append, List.length_cons, List.length_nil, List.replicate, Nat.add_one_sub_one, Nat.reduceAdd, Nat.reduceSub, List.append_nil, List.getElem?_cons_zero, List.getElem?_cons_succ, List.set_cons_zero, List.set_cons_succ, Option.map_some, Option.some.injEq, exists_eq_left', exists_eq', exists_eq_left, DS.O.pu.injEq, DS.O.fl.injEq, DS.O.fd.injEq, DS.wipeE, DS.backE, Option.getD_some, Option.getD_none, DS.D.bl.injEq, true_and, and_true, if_true, if_false, reduceCtorEq, Bool.false_eq_true, List.nodup_nil, List.nodup_cons, List.not_mem_nil, not_false_eq_true, exists_const, DS.s_at20, DS.s_at21, DS.s_at30, DS.s_at31, DS.s_at32, DS.s_revt, DS.p_non, DS.i_int_non, DS.i_bool_non, DS.i_str_non, DS.i_tuple_non, DS.i_list_non, DS.i_dict_non, DS.i_lt_non, DS.p_bl, DS.i_int_bl, DS.i_bool_bl, DS.i_str_bl, DS.i_tuple_bl, DS.i_list_bl, DS.i_dict_bl, DS.i_lt_bl, DS.p_int, DS.i_int_int, DS.i_bool_int, DS.i_str_int, DS.i_tuple_int, DS.i_list_int, DS.i_dict_int, DS.i_lt_int, DS.p_str, DS.i_int_str, DS.i_bool_str, DS.i_str_str, DS.i_tuple_str, DS.i_list_str, DS.i_dict_str, DS.i_lt_str, DS.p_lst, DS.i_int_lst, DS.i_bool_lst, DS.i_str_lst, DS.i_tuple_lst, DS.i_list_lst, DS.i_dict_lst, DS.i_lt_lst, DS.p_tup, DS.i_int_tup, DS.i_bool_tup, DS.i_str_tup, DS.i_tuple_tup, DS.i_list_tup, DS.i_dict_tup, DS.i_lt_tup, DS.p_dct, DS.i_int_dct, DS.i_bool_dct, DS.i_str_dct, DS.i_tuple_dct, DS.i_list_dct, DS.i_dict_dct, DS.i_lt_dct, DS.ite_tt, DS.ite_ff, Bool.not_true, Bool.not_false, true_and, h18]
  refine ⟨noVal_of al, ?_⟩
  have hfin : isTerm l = true → isTerm r = true → wSs Γ r3 [some x, some (.pu l), some (.pu r), some (.pu b)] ⟨nx, rt, bk, ct⟩ R := fun hl hr => r3_ok h18 al ar ab hl hr fun e => by
    have := hk e
    rw [hl, hr] at this
    simpa using this
  have hrr : isTerm l = true → (noVal r = true ∧ if (DS.isNon r == false) = true then fsName [.pu r] (fun r1 outs => outs.length = 0 ∧ ∃ k, truD r1.fz = some k ∧ if (!k) = true then rt (.pu (.bl false)) [some x, some (.pu l), some (.pu r), some (.pu b)] else wSs Γ r3 [some x, some (.pu l), some (.pu r), some (.pu b)] ⟨nx, rt, bk, ct⟩ R) (fun x1 outs => outs.length = 0 ∧ R x1 [some x, some (.pu l), some (.pu r), some (.pu b)]) else if (DS.isNon r == false) = true then rt (.pu (.bl false)) [some x, some (.pu l), some (.pu r), some (.pu b)] else wSs Γ r3 [some x, some (.pu l), some (.pu r), some (.pu b)] ⟨nx, rt, bk, ct⟩ R) := by
    intro hl
    refine ⟨noVal_of ar, ?_⟩
    by_cases hn : DS.isNon r = true
    · simp only [hn, tf, if_false]
      exact hfin hl (isNon_term hn)
    · have hn : DS.isNon r = false := by simpa using hn
      simp only [hn, ff, if_true]
      refine ⟨r, rfl, ar, rfl, _, rfl, ?_⟩
      have ht := isTerm_not hn
      by_cases hnm : isName r = true
      · simp only [hnm, DS.wSs, DS.wS, DS.wE, DS.wEs, DS.wAs, DS.wOI, DS.wCs, DS.asK, DS.tkD, DS.avIos, DS.putOs, DS.setAll, DS.opW, DS.bindT, DS.bindTs, DS.startE, DS.mTy, DS.ex_some, DS.ex_publ, DS.ex_int, DS.ex_int2, DS.ex_tup, DS.s_add1, DS.s_add2, DS.s_add3, DS.s_add4, DS.s_sub, DS.s_mul1, DS.s_mul2, DS.s_fdiv, DS.s_mod, DS.s_pow, DS.s_neg, DS.s_cmp1, DS.s_cmp2, DS.s_eq, DS.s_isN, DS.s_in1, DS.s_in2, DS.s_in3, DS.s_in4, DS.s_idx1, DS.s_idx2, DS.s_idx3, DS.s_idx4, DS.s_slc1, DS.s_slc2, DS.s_slc3, DS.s_slc4, DS.s_rev, DS.s_len1, DS.s_len2, DS.s_len3, DS.s_len4, DS.s_len5, DS.s_list1, DS.s_list2, DS.s_list3, DS.s_tuple1, DS.s_tuple2, DS.s_dict1, DS.s_dict2, DS.s_max2, DS.s_min2, DS.s_abs, DS.s_isi, DS.s_sum, DS.s_join, DS.s_upper, DS.s_items, DS.s_vals, DS.s_all, DS.s_str1, DS.s_str2, DS.s_str3, DS.s_int1, DS.s_int2, DS.s_get1, DS.s_get2, DS.s_dct0, DS.s_fz1, DS.s_fz2, DS.s_fz3, DS.s_bf1, DS.s_bf2, DS.s_bf3, DS.s_tr0, DS.s_tr1, DS.s_tr2, DS.s_tr3, DS.s_tr4, DS.s_tr5, DS.s_tr6, DS.s_av0, DS.s_av1, DS.s_av2, DS.s_ag0, DS.s_ag1, DS.s_ag2, DS.s_ty1, DS.s_ty2, DS.s_ty3, DS.s_ix0, DS.s_at0, DS.ex_cons, DS.s_dep1, DS.s_dep2, DS.s_dep3, DS.s_key1, DS.s_key2, DS.s_key3, DS.s_ot0, DS.ex_one, DS.s_ot1, DS.s_sq1, DS.s_sq2, DS.s_sq3, DS.s_sq4, DS.s_rg1, DS.s_rg2, DS.s_en, DS.s_it, DS.s_vl, List.map_cons, List.map_nil, List.cons_append, List.nil_append, List.length_cons, List.length_nil, List.replicate, Nat.add_one_sub_one, Nat.reduceAdd, Nat.reduceSub, List.append_nil, List.getElem?_cons_zero, List.getElem?_cons_succ, List.set_cons_zero, List.set_cons_succ, Option.map_some, Option.some.injEq, exists_eq_left', exists_eq', exists_eq_left, DS.O.pu.injEq, DS.O.fl.injEq, DS.O.fd.injEq, DS.wipeE, DS.backE, Option.getD_some, Option.getD_none, DS.D.bl.injEq, true_and, and_true, if_true, if_false, reduceCtorEq, Bool.false_eq_true, List.nodup_nil, List.nodup_cons, List.not_mem_nil, not_false_eq_true, exists_const, DS.s_at20, DS.s_at21, DS.s_at30, DS.s_at31, DS.s_at32, DS.s_revt, DS.p_non, DS.i_int_non, DS.i_bool_non, DS.i_str_non, DS.i_tuple_non, DS.i_list_non, DS.i_dict_non, DS.i_lt_non, DS.p_bl, DS.i_int_bl, DS.i_bool_bl, DS.i_str_bl, DS.i_tuple_bl, DS.i_list_bl, DS.i_dict_bl, DS.i_lt_bl, DS.p_int, DS.i_int_int, DS.i_bool_int, DS.i_str_int, DS.i_tuple_int, DS.i_list_int, DS.i_dict_int, DS.i_lt_int, DS.p_str, DS.i_int_str, DS.i_bool_str, DS.i_str_str, DS.i_tuple_str, DS.i_list_str, DS.i_dict_str, DS.i_lt_str, DS.p_lst, DS.i_int_lst, DS.i_bool_lst, DS.i_str_lst, DS.i_tuple_lst, DS.i_list_lst, DS.i_dict_lst, DS.i_lt_lst, DS.p_tup, DS.i_int_tup, DS.i_bool_tup, DS.i_str_tup, DS.i_tuple_tup, DS.i_list_tup, DS.i_dict_tup, DS.i_lt_tup, DS.p_dct, DS.i_int_dct, DS.i_bool_dct, DS.i_str_dct, DS.i_tuple_dct, DS.i_list_dct, DS.i_dict_dct, DS.i_lt_dct, DS.ite_tt, DS.ite_ff, Bool.not_true, Bool.not_false, true_and]
        exact hfin hl (ht.trans hnm)
      · have hnm : isName r = false := by simpa using hnm
        simp only [hnm, DS.wSs, DS.wS, DS.wE, DS.wEs, DS.wAs, DS.wOI, DS.wCs, DS.asK, DS.tkD, DS.avIos, DS.putOs, DS.setAll, DS.opW, DS.bindT, DS.bindTs, DS.startE, DS.mTy, DS.ex_some, DS.ex_publ, DS.ex_int, DS.ex_int2, DS.ex_tup, DS.s_add1, DS.s_add2, DS.s_add3, DS.s_add4, DS.s_sub, DS.s_mul1, DS.s_mul2, DS.s_fdiv, DS.s_mod, DS.s_pow, DS.s_neg, DS.s_cmp1, DS.s_cmp2, DS.s_eq, DS.s_isN, DS.s_in1, DS.s_in2, DS.s_in3, DS.s_in4, DS.s_idx1, DS.s_idx2, DS.s_idx3, DS.s_idx4, DS.s_slc1, DS.s_slc2, DS.s_slc3, DS.s_slc4, DS.s_rev, DS.s_len1, DS.s_len2, DS.s_len3, DS.s_len4, DS.s_len5, DS.s_list1, DS.s_list2, DS.s_list3, DS.s_tuple1, DS.s_tuple2, DS.s_dict1, DS.s_dict2, DS.s_max2, DS.s_min2, DS.s_abs, DS.s_isi, DS.s_sum, DS.s_join, DS.s_upper, DS.s_items, DS.s_vals, DS.s_all, DS.s_str1, DS.s_str2, DS.s_str3, DS.s_int1, DS.s_int2, DS.s_get1, DS.s_get2, DS.s_dct0, DS.s_fz1, DS.s_fz2, DS.s_fz3, DS.s_bf1, DS.s_bf2, DS.s_bf3, DS.s_tr0, DS.s_tr1, DS.s_tr2, DS.s_tr3, DS.s_tr4, DS.s_tr5, DS.s_tr6, DS.s_av0, DS.s_av1, DS.s_av2, DS.s_ag0, DS.s_ag1, DS.s_ag2, DS.s_ty1, DS.s_ty2, DS.s_ty3, DS.s_ix0, DS.s_at0, DS.ex_cons, DS.s_dep1, DS.s_dep2, DS.s_dep3, DS.s_key1, DS.s_key2, DS.s_key3, DS.s_ot0, DS.ex_one, DS.s_ot1, DS.s_sq1, DS.s_sq2, DS.s_sq3, DS.s_sq4, DS.s_rg1, DS.s_rg2, DS.s_en, DS.s_it, DS.s_vl, List.map_cons, List.map_nil, List.cons_append, List.nil_append, List.length_cons, List.length_nil, List.replicate, Nat.add_one_sub_one, Nat.reduceAdd, Nat.reduceSub, List.append_nil, List.getElem?_cons_zero, List.getElem?_cons_succ, List.set_cons_zero, List.set_cons_succ, Option.map_some, Option.some.injEq, exists_eq_left', exists_eq', exists_eq_left, DS.O.pu.injEq, DS.O.fl.injEq, DS.O.fd.injEq, DS.wipeE, DS.backE, Option.getD_some, Option.getD_none, DS.D.bl.injEq, true_and, and_true, if_true, if_false, reduceCtorEq, Bool.false_eq_true, List.nodup_nil, List.nodup_cons, List.not_mem_nil, not_false_eq_true, exists_const, DS.s_at20, DS.s_at21, DS.s_at30, DS.s_at31, DS.s_at32, DS.s_revt, DS.p_non, DS.i_int_non, DS.i_bool_non, DS.i_str_non, DS.i_tuple_non, DS.i_list_non, DS.i_dict_non, DS.i_lt_non, DS.p_bl, DS.i_int_bl, DS.i_bool_bl, DS.i_str_bl, DS.i_tuple_bl, DS.i_list_bl, DS.i_dict_bl, DS.i_lt_bl, DS.p_int, DS.i_int_int, DS.i_bool_int, DS.i_str_int, DS.i_tuple_int, DS.i_list_int, DS.i_dict_int, DS.i_lt_int, DS.p_str, DS.i_int_str, DS.i_bool_str, DS.i_str_str, DS.i_tuple_str, DS.i_list_str, DS.i_dict_str, DS.i_lt_str, DS.p_lst, DS.i_int_lst, DS.i_bool_lst, DS.i_str_lst, DS.i_tuple_lst, DS.i_list_lst, DS.i_dict_lst, DS.i_lt_lst, DS.p_tup, DS.i_int_tup, DS.i_bool_tup, DS.i_str_tup, DS.i_tuple_tup, DS.i_list_tup, DS.i_dict_tup, DS.i_lt_tup, DS.p_dct, DS.i_int_dct, DS.i_bool_dct, DS.i_str_dct, DS.i_tuple_dct, DS.i_list_dct, DS.i_dict_dct, DS.i_lt_dct, DS.ite_tt, DS.ite_ff, Bool.not_true, Bool.not_false, true_and]
        have := hk [some x, some (.pu l), some (.pu r), some (.pu b)]
        rw [ht.trans hnm] at this
        simpa using this
  by_cases hn : DS.isNon l = true
  · simp only [hn, tf, if_false]
    exact hrr (isNon_term hn)
  · have hn : DS.isNon l = false := by simpa using hn
    simp only [hn, ff, if_true]
    refine ⟨l, rfl, al, rfl, _, rfl, ?_⟩
    have ht := isTerm_not hn
    by_cases hnm : isName l = true
    · simp only [hnm, DS.wSs, DS.wS, DS.wE, DS.wEs, DS.wAs, DS.wOI, DS.wCs, DS.asK, DS.tkD, DS.avIos, DS.putOs, DS.setAll, DS.opW, DS.bindT, DS.bindTs, DS.startE, DS.mTy, DS.ex_some, DS.ex_publ, DS.ex_int, DS.ex_int2, DS.ex_tup, DS.s_add1, DS.s_add2, DS.s_add3, DS.s_add4, DS.s_sub, DS.s_mul1, DS.s_mul2, DS.s_fdiv, DS.s_mod, DS.s_pow, DS.s_neg, DS.s_cmp1, DS.s_cmp2, DS.s_eq, DS.s_isN, DS.s_in1, DS.s_in2, DS.s_in3, DS.s_in4, DS.s_idx1, DS.s_idx2, DS.s_idx3, DS.s_idx4, DS.s_slc1, DS.s_slc2, DS.s_slc3, DS.s_slc4, DS.s_rev, DS.s_len1, DS.s_len2, DS.s_len3, DS.s_len4, DS.s_len5, DS.s_list1, DS.s_list2, DS.s_list3, DS.s_tuple1, DS.s_tuple2, DS.s_dict1, DS.s_dict2, DS.s_max2, DS.s_min2, DS.s_abs, DS.s_isi, DS.s_sum, DS.s_join, DS.s_upper, DS.s_items, DS.s_vals, DS.s_all, DS.s_str1, DS.s_str2, DS.s_str3, DS.s_int1, DS.s_int2, DS.s_get1, DS.s_get2, DS.s_dct0, DS.s_fz1, DS.s_fz2, DS.s_fz3, DS.s_bf1, DS.s_bf2, DS.s_bf3, DS.s_tr0, DS.s_tr1, DS.s_tr2, DS.s_tr3, DS.s_tr4, DS.s_tr5, DS.s_tr6, DS.s_av0, DS.s_av1, DS.s_av2, DS.s_ag0, DS.s_ag1, DS.s_ag2, DS.s_ty1, DS.s_ty2, DS.s_ty3, DS.s_ix0, DS.s_at0, DS.ex_cons, DS.s_dep1, DS.s_dep2, DS.s_dep3, DS.s_key1, DS.s_key2, DS.s_key3, DS.s_ot0, DS.ex_one, DS.s_ot1, DS.s_sq1, DS.s_sq2, DS.s_sq3, DS.s_sq4, DS.s_rg1, DS.s_rg2, DS.s_en, DS.s_it, DS.s_vl, List.map_cons, List.map_nil, List.cons_append, List.nil_append, List.length_cons, List.length_nil, List.replicate, Nat.add_one_sub_one, Nat.reduceAdd, Nat.reduceSub, List.append_nil, List.getElem?_cons_zero, List.getElem?_cons_succ, List.set_cons_zero, List.set_cons_succ, Option.map_some, Option.some.injEq, exists_eq_left', exists_eq', exists_eq_left, DS.O.pu.injEq, DS.O.fl.injEq, DS.O.fd.injEq, DS.wipeE, DS.backE, Option.getD_some, Option.getD_none, DS.D.bl.injEq, true_and, and_true, if_true, if_false, reduceCtorEq, Bool.false_eq_true, List.nodup_nil, List.nodup_cons, List.not_mem_nil, not_false_eq_true, exists_const, DS.s_at20, DS.s_at21, DS.s_at30, DS.s_at31, DS.s_at32, DS.s_revt, DS.p_non, DS.i_int_non, DS.i_bool_non, DS.i_str_non, DS.i_tuple_non, DS.i_list_non, DS.i_dict_non, DS.i_lt_non, DS.p_bl, DS.i_int_bl, DS.i_bool_bl, DS.i_str_bl, DS.i_tuple_bl, DS.i_list_bl, DS.i_dict_bl, DS.i_lt_bl, DS.p_int, DS.i_int_int, DS.i_bool_int, DS.i_str_int, DS.i_tuple_int, DS.i_list_int, DS.i_dict_int, DS.i_lt_int, DS.p_str, DS.i_int_str, DS.i_bool_str, DS.i_str_str, DS.i_tuple_str, DS.i_list_str, DS.i_dict_str, DS.i_lt_str, DS.p_lst, DS.i_int_lst, DS.i_bool_lst, DS.i_str_lst, DS.i_tuple_lst, DS.i_list_lst, DS.i_dict_lst, DS.i_lt_lst, DS.p_tup, DS.i_int_tup, DS.i_bool_tup, DS.i_str_tup, DS.i_tuple_tup, DS.i_list_tup, DS.i_dict_tup, DS.i_lt_tup, DS.p_dct, DS.i_int_dct, DS.i_bool_dct, DS.i_str_dct, DS.i_tuple_dct, DS.i_list_dct, DS.i_dict_dct, DS.i_lt_dct, DS.ite_tt, DS.ite_ff, Bool.not_true, Bool.not_false, true_and]
      exact hrr (ht.trans hnm)
    · have hnm : isName l = false := by simpa using hnm
      simp only [hnm, DS.wSs, DS.wS, DS.wE, DS.wEs, DS.wAs, DS.wOI, DS.wCs, DS.asK, DS.tkD, DS.avIos, DS.putOs, DS.setAll, DS.opW, DS.bindT, DS.bindTs, DS.startE, DS.mTy, DS.ex_some, DS.ex_publ, DS.ex_int, DS.ex_int2, DS.ex_tup, DS.s_add1, DS.s_add2, DS.s_add3, DS.s_add4, DS.s_sub, DS.s_mul1, DS.s_mul2, DS.s_fdiv, DS.s_mod, DS.s_pow, DS.s_neg, DS.s_cmp1, DS.s_cmp2, DS.s_eq, DS.s_isN, DS.s_in1, DS.s_in2, DS.s_in3, DS.s_in4, DS.s_idx1, DS.s_idx2, DS.s_idx3, DS.s_idx4, DS.s_slc1, DS.s_slc2, DS.s_slc3, DS.s_slc4, DS.s_rev, DS.s_len1, DS.s_len2, DS.s_len3, DS.s_len4, DS.s_len5, DS.s_list1, DS.s_list2, DS.s_list3, DS.s_tuple1, DS.s_tuple2, DS.s_dict1, DS.s_dict2, DS.s_max2, DS.s_min2, DS.s_abs, DS.s_isi, DS.s_sum, DS.s_join, DS.s_upper, DS.s_items, DS.s_vals, DS.s_all, DS.s_str1, DS.s_str2, DS.s_str3, DS.s_int1, DS.s_int2, DS.s_get1, DS.s_get2, DS.s_dct0, DS.s_fz1, DS.s_fz2, DS.s_fz3, DS.s_bf1, DS.s_bf2, DS.s_bf3, DS.s_tr0, DS.s_tr1, DS.s_tr2, DS.s_tr3, DS.s_tr4, DS.s_tr5, DS.s_tr6, DS.s_av0, DS.s_av1, DS.s_av2, DS.s_ag0, DS.s_ag1, DS.s_ag2, DS.s_ty1, DS.s_ty2, DS.s_ty3, DS.s_ix0, DS.s_at0, DS.ex_cons, DS.s_dep1, DS.s_dep2, DS.s_dep3, DS.s_key1, DS.s_key2, DS.s_key3, DS.s_ot0, DS.ex_one, DS.s_ot1, DS.s_sq1, DS.s_sq2, DS.s_sq3, DS.s_sq4, DS.s_rg1, DS.s_rg2, DS.s_en, DS.s_it, DS.s_vl, List.map_cons, List.map_nil, List.cons_append, List.nil_append, List.length_cons, List.length_nil, List.replicate, Nat.add_one_sub_one, Nat.reduceAdd, Nat.reduceSub, List.append_nil, List.getElem?_cons_zero, List.getElem?_cons_succ, List.set_cons_zero, List.set_cons_succ, Option.map_some, Option.some.injEq, exists_eq_left', exists_eq', exists_eq_left, DS.O.pu.injEq, DS.O.fl.injEq, DS.O.fd.injEq, DS.wipeE, DS.backE, Option.getD_some, Option.getD_none, DS.D.bl.injEq, true_and, and_true, if_true, if_false, reduceCtorEq, Bool.false_eq_true, List.nodup_nil, List.nodup_cons, List.not_mem_nil, not_false_eq_true, exists_const, DS.s_at20, DS.s_at21, DS.s_at30, DS.s_at31, DS.s_at32, DS.s_revt, DS.p_non, DS.i_int_non, DS.i_bool_non, DS.i_str_non, DS.i_tuple_non, DS.i_list_non, DS.i_dict_non, DS.i_lt_non, DS.p_bl, DS.i_int_bl, DS.i_bool_bl, DS.i_str_bl, DS.i_tuple_bl, DS.i_list_bl, DS.i_dict_bl, DS.i_lt_bl, DS.p_int, DS.i_int_int, DS.i_bool_int, DS.i_str_int, DS.i_tuple_int, DS.i_list_int, DS.i_dict_int, DS.i_lt_int, DS.p_str, DS.i_int_str, DS.i_bool_str, DS.i_str_str, DS.i_tuple_str, DS.i_list_str, DS.i_dict_str, DS.i_lt_str, DS.p_lst, DS.i_int_lst, DS.i_bool_lst, DS.i_str_lst, DS.i_tuple_lst, DS.i_list_lst, DS.i_dict_lst, DS.i_lt_lst, DS.p_tup, DS.i_int_tup, DS.i_bool_tup, DS.i_str_tup, DS.i_tuple_tup, DS.i_list_tup, DS.i_dict_tup, DS.i_lt_tup, DS.p_dct, DS.i_int_dct, DS.i_bool_dct, DS.i_str_dct, DS.i_tuple_dct, DS.i_list_dct, DS.i_dict_dct, DS.i_lt_dct, DS.ite_tt, DS.ite_ff, Bool.not_true, Bool.not_false, true_and]
      have := hk [some x, some (.pu l), some (.pu r), some (.pu b)]
      rw [ht.trans hnm] at this
      simpa using this
def fsRowIs : FS := fun args K R => ∃ (d : D), args = [.pu d] ∧ Ask3 d ∧ K (.pu (.bl (isCons d))) []
theorem ok19 {Γ : Gam} (h18 : Γ 18 = fsName) : Fn.Ok Γ f19 fsRowIs := by
  rintro args K R ⟨d, rfl, hd, hk⟩
  refine ⟨rfl, ?_⟩
  rw [fR_eq]
  unfold fR
  cases d with
  | ins c fs => cases hd
  | val u => cases hd
  | scr xs => cases hd
  | tup xs =>
    match xs, hd, hk with
    | [], hd, hk => simp only [DS.wSs, DS.wS, DS.wE, DS.wEs, DS.wAs, DS.wOI, DS.wCs, DS.asK, DS.tkD, DS.avIos, DS.putOs, DS.setAll, DS.opW, DS.bindT, DS.bindTs, DS.startE, DS.mTy, DS.ex_some, DS.ex_publ, DS.ex_int, DS.ex_int2, DS.ex_tup, DS.s_add1, DS.s_add2, DS.s_add3, DS.s_add4, DS.s_sub, DS.s_mul1, DS.s_mul2, DS.s_fdiv, DS.s_mod, DS.s_pow, DS.s_neg, DS.s_cmp1, DS.s_cmp2, DS.s_eq, DS.s_isN, DS.s_in1, DS.s_in2, DS.s_in3, DS.s_in4, DS.s_idx1, DS.s_idx2, DS.s_idx3, DS.s_idx4, DS.s_slc1, DS.s_slc2, DS.s_slc3, DS.s_slc4, DS.s_rev, DS.s_len1, DS.s_len2, DS.s_len3, DS.s_len4, DS.s_len5, DS.s_list1, DS.s_list2, DS.s_list3, DS.s_tuple1, DS.s_tuple2, DS.s_dict1, DS.s_dict2, DS.s_max2, DS.s_min2, DS.s_abs, DS.s_isi, DS.s_sum, DS.s_join, DS.s_upper, DS.s_items, DS.s_vals, DS.s_all, DS.s_str1, DS.s_str2, DS.s_str3, DS.s_int1, DS.s_int2, DS.s_get1, DS.s_get2, DS.s_dct0, DS.s_fz1, DS.s_fz2, DS.s_fz3, DS.s_bf1, DS.s_bf2, DS.s_bf3, DS.s_tr0, DS.s_tr1, DS.s_tr2, DS.s_tr3, DS.s_tr4, DS.s_tr5, DS.s_tr6, DS.s_av0, DS.s_av1, DS.s_av2, DS.s_ag0, DS.s_ag1, DS.s_ag2, DS.s_ty1, DS.s_ty2, DS.s_ty3, DS.s_ix0, DS.s_at0, DS.ex_cons, DS.s_dep1, DS.s_dep2, DS.s_dep3, DS.s_key1, DS.s_key2, DS.s_key3, DS.s_ot0, DS.ex_one, DS.s_ot1, DS.s_sq1, DS.s_sq2, DS.s_sq3, DS.s_sq4, DS.s_rg1, DS.s_rg2, DS.s_en, DS.s_it, DS.s_vl, List.map_cons, List.map_nil, List.cons_append, List.nil_append, List.length_cons, List.length_nil, List.replicate, Nat.add_one_sub_one, Nat.reduceAdd, Nat.reduceSub, List.append_nil, List.getElem?_cons_zero, List.getElem?_cons_succ, List.set_cons_zero, List.set_cons_succ, Option.map_some, Option.some.injEq, exists_eq_left', exists_eq', exists_eq_left, DS.O.pu.injEq, DS.O.fl.injEq, DS.O.fd.injEq, DS.wipeE, DS.backE, Option.getD_some, Option.getD_none, DS.D.bl.injEq, true_and, and_true, if_true, if_false, reduceCtorEq, Bool.false_eq_true, List.nodup_nil, List.nodup_cons, List.not_mem_nil, not_false_eq_true, exists_const, DS.s_at20, DS.s_at21, DS.s_at30, DS.s_at31, DS.s_at32, DS.s_revt, DS.p_non, DS.i_int_non, DS.i_bool_non, DS.i_str_non, DS.i_tuple_non, DS.i_list_non, DS.i_dict_non, DS.i_lt_non, DS.p_bl, DS.i_int_bl, DS.i_bool_bl, DS.i_str_bl, DS.i_tuple_bl, DS.i_list_bl, DS.i_dict_bl, DS.i_lt_bl, DS.p_int, DS.i_int_int, DS.i_bool_int, DS.i_str_int, DS.i_tuple_int, DS.i_list_int, DS.i_dict_int, DS.i_lt_int, DS.p_str, DS.i_int_str, DS.i_bool_str, DS.i_str_str, DS.i_tuple_str, DS.i_list_str, DS.i_dict_str, DS.i_lt_str, DS.p_lst, DS.i_int_lst, DS.i_bool_lst, DS.i_str_lst, DS.i_tuple_lst, DS.i_list_lst, DS.i_dict_lst, DS.i_lt_lst, DS.p_tup, DS.i_int_tup, DS.i_bool_tup, DS.i_str_tup, DS.i_tuple_tup, DS.i_list_tup, DS.i_dict_tup, DS.i_lt_tup, DS.p_dct, DS.i_int_dct, DS.i_bool_dct, DS.i_str_dct, DS.i_tuple_dct, DS.i_list_dct, DS.i_dict_dct, DS.i_lt_dct, DS.ite_tt, DS.ite_ff, Bool.not_true, Bool.not_false, true_and]; exact ⟨cmp_int, hk⟩
    | [_], hd, hk => simp only [DS.wSs, DS.wS, DS.wE, DS.wEs, DS.wAs, DS.wOI, DS.wCs, DS.asK, DS.tkD, DS.avIos, DS.putOs, DS.setAll, DS.opW, DS.bindT, DS.bindTs, DS.startE, DS.mTy, DS.ex_some, DS.ex_publ, DS.ex_int, DS.ex_int2, DS.ex_tup, DS.s_add1, DS.s_add2, DS.s_add3, DS.s_add4, DS.s_sub, DS.s_mul1, DS.s_mul2, DS.s_fdiv, DS.s_mod, DS.s_pow, DS.s_neg, DS.s_cmp1, DS.s_cmp2, DS.s_eq, DS.s_isN, DS.s_in1, DS.s_in2, DS.s_in3, DS.s_in4, DS.s_idx1, DS.s_idx2, DS.s_idx3, DS.s_idx4, DS.s_slc1, DS.s_slc2, DS.s_slc3, DS.s_slc4, DS.s_rev, DS.s_len1, DS.s_len2, DS.s_len3, DS.s_len4, DS.s_len5, DS.s_list1, DS.s_list2, DS.s_list3, DS.s_tuple1, DS.s_tuple2, DS.s_dict1, DS.s_dict2, DS.s_max2, DS.s_min2, DS.s_abs, DS.s_isi, DS.s_sum, DS.s_join, DS.s_upper, DS.s_items, DS.s_vals, DS.s_all, DS.s_str1, DS.s_str2, DS.s_str3, DS.s_int1, DS.s_int2, DS.s_get1, DS.s_get2, DS.s_dct0, DS.s_fz1, DS.s_fz2, DS.s_fz3, DS.s_bf1, DS.s_bf2, DS.s_bf3, DS.s_tr0, DS.s_tr1, DS.s_tr2, DS.s_tr3, DS.s_tr4, DS.s_tr5, DS.s_tr6, DS.s_av0, DS.s_av1, DS.s_av2, DS.s_ag0, DS.s_ag1, DS.s_ag2, DS.s_ty1, DS.s_ty2, DS.s_ty3, DS.s_ix0, DS.s_at0, DS.ex_cons, DS.s_dep1, DS.s_dep2, DS.s_dep3, DS.s_key1, DS.s_key2, DS.s_key3, DS.s_ot0, DS.ex_one, DS.s_ot1, DS.s_sq1, DS.s_sq2, DS.s_sq3, DS.s_sq4, DS.s_rg1, DS.s_rg2, DS.s_en, DS.s_it, DS.s_vl, List.map_cons, List.map_nil, List.cons_append, List.nil_append, List.length_cons, List.length_nil, List.replicate, Nat.add_one_sub_one, Nat.reduceAdd, Nat.reduceSub, List.append_nil, List.getElem?_cons_zero, List.getElem?_cons_succ, List.set_cons_zero, List.set_cons_succ, Option.map_some, Option.some.injEq, exists_eq_left', exists_eq', exists_eq_left, DS.O.pu.injEq, DS.O.fl.injEq, DS.O.fd.injEq, DS.wipeE, DS.backE, Option.getD_some, Option.getD_none, DS.D.bl.injEq, true_and, and_true, if_true, if_false, reduceCtorEq, Bool.false_eq_true, List.nodup_nil, List.nodup_cons, List.not_mem_nil, not_false_eq_true, exists_const, DS.s_at20, DS.s_at21, DS.s_at30, DS.s_at31, DS.s_at32, DS.s_revt, DS.p_non, DS.i_int_non, DS.i_bool_non, DS.i_str_non, DS.i_tuple_non, DS.i_list_non, DS.i_dict_non, DS.i_lt_non, DS.p_bl, DS.i_int_bl, DS.i_bool_bl, DS.i_str_bl, DS.i_tuple_bl, DS.i_list_bl, DS.i_dict_bl, DS.i_lt_bl, DS.p_int, DS.i_int_int, DS.i_bool_int, DS.i_str_int, DS.i_tuple_int, DS.i_list_int, DS.i_dict_int, DS.i_lt_int, DS.p_str, DS.i_int_str, DS.i_bool_str, DS.i_str_str, DS.i_tuple_str, DS.i_list_str, DS.i_dict_str, DS.i_lt_str, DS.p_lst, DS.i_int_lst, DS.i_bool_lst, DS.i_str_lst, DS.i_tuple_lst, DS.i_list_lst, DS.i_dict_lst, DS.i_lt_lst, DS.p_tup, DS.i_int_tup, DS.i_bool_tup, DS.i_str_tup, DS.i_tuple_tup, DS.i_list_tup, DS.i_dict_tup, DS.i_lt_tup, DS.p_dct, DS.i_int_dct, DS.i_bool_dct, DS.i_str_dct, DS.i_tuple_dct, DS.i_list_dct, DS.i_dict_dct, DS.i_lt_dct, DS.ite_tt, DS.ite_ff, Bool.not_true, Bool.not_false, true_and]; exact ⟨cmp_int, hk⟩
    | [_, _], hd, hk => simp only [DS.wSs, DS.wS, DS.wE, DS.wEs, DS.wAs, DS.wOI, DS.wCs, DS.asK, DS.tkD, DS.avIos, DS.putOs, DS.setAll, DS.opW, DS.bindT, DS.bindTs, DS.startE, DS.mTy, DS.ex_some, DS.ex_publ, DS.ex_int, DS.ex_int2, DS.ex_tup, DS.s_add1, DS.s_add2, DS.s_add3, DS.s_add4, DS.s_sub, DS.s_mul1, DS.s_mul2, DS.s_fdiv, DS.s_mod, DS.s_pow, DS.s_neg, DS.s_cmp1, DS.s_cmp2, DS.s_eq, DS.s_isN, DS.s_in1, DS.s_in2, DS.s_in3, DS.s_in4, DS.s_idx1, DS.s_idx2, DS.s_idx3, DS.s_idx4, DS.s_slc1, DS.s_slc2, DS.s_slc3, DS.s_slc4, DS.s_rev, DS.s_len1, DS.s_len2, DS.s_len3, DS.s_len4, DS.s_len5, DS.s_list1, DS.s_list2, DS.s_list3, DS.s_tuple1, DS.s_tuple2, DS.s_dict1, DS.s_dict2, DS.s_max2, DS.s_min2, DS.s_abs, DS.s_isi, DS.s_sum, DS.s_join, DS.s_upper, DS.s_items, DS.s_vals, DS.s_all, DS.s_str1, DS.s_str2, DS.s_str3, DS.s_int1, DS.s_int2, DS.s_get1, DS.s_get2, DS.s_dct0, DS.s_fz1, DS.s_fz2, DS.s_fz3, DS.s_bf1, DS.s_bf2, DS.s_bf3, DS.s_tr0, DS.s_tr1, DS.s_tr2, DS.s_tr3, DS.s_tr4, DS.s_tr5, DS.s_tr6, DS.s_av0, DS.s_av1, DS.s_av2, DS.s_ag0, DS.s_ag1, DS.s_ag2, DS.s_ty1, DS.s_ty2, DS.s_ty3, DS.s_ix0, DS.s_at0, DS.ex_cons, DS.s_dep1, DS.s_dep2, DS.s_dep3, DS.s_key1, DS.s_key2, DS.s_key3, DS.s_ot0, DS.ex_one, DS.s_ot1, DS.s_sq1, DS.s_sq2, DS.s_sq3, DS.s_sq4, DS.s_rg1, DS.s_rg2, DS.s_en, DS.s_it, DS.s_vl, List.map_cons, List.map_nil, List.cons_append, List.nil_append, List.length_cons, List.length_nil, List.replicate, Nat.add_one_sub_one, Nat.reduceAdd, Nat.reduceSub, List.append_nil, List.getElem?_cons_zero, List.getElem?_cons_succ, List.set_cons_zero, List.set_cons_succ, Option.map_some, Option.some.injEq, exists_eq_left', exists_eq', exists_eq_left, DS.O.pu.injEq, DS.O.fl.injEq, DS.O.fd.injEq, DS.wipeE, DS.backE, Option.getD_some, Option.getD_none, DS.D.bl.injEq, true_and, and_true, if_true, if_false, reduceCtorEq, Bool.false_eq_true, List.nodup_nil, List.nodup_cons, List.not_mem_nil, not_false_eq_true, exists_const, DS.s_at20, DS.s_at21, DS.s_at30, DS.s_at31, DS.s_at32, DS.s_revt, DS.p_non, DS.i_int_non, DS.i_bool_non, DS.i_str_non, DS.i_tuple_non, DS.i_list_non, DS.i_dict_non, DS.i_lt_non, DS.p_bl, DS.i_int_bl, DS.i_bool_bl, DS.i_str_bl, DS.i_tuple_bl, DS.i_list_bl, DS.i_dict_bl, DS.i_lt_bl, DS.p_int, DS.i_int_int, DS.i_bool_int, DS.i_str_int, DS.i_tuple_int, DS.i_list_int, DS.i_dict_int, DS.i_lt_int, DS.p_str, DS.i_int_str, DS.i_bool_str, DS.i_str_str, DS.i_tuple_str, DS.i_list_str, DS.i_dict_str, DS.i_lt_str, DS.p_lst, DS.i_int_lst, DS.i_bool_lst, DS.i_str_lst, DS.i_tuple_lst, DS.i_list_lst, DS.i_dict_lst, DS.i_lt_lst, DS.p_tup, DS.i_int_tup, DS.i_bool_tup, DS.i_str_tup, DS.i_tuple_tup, DS.i_list_tup, DS.i_dict_tup, DS.i_lt_tup, DS.p_dct, DS.i_int_dct, DS.i_bool_dct, DS.i_str_dct, DS.i_tuple_dct, DS.i_list_dct, DS.i_dict_dct, DS.i_lt_dct, DS.ite_tt, DS.ite_ff, Bool.not_true, Bool.not_false, true_and]; exact ⟨cmp_int, hk⟩
    | [l, r, b], hd, hk =>
      have al : Askd l := hd rfl l (by simp)
      have ar : Askd r := hd rfl r (by simp)
      have ab : Askd b := hd rfl b (by simp)
      have e3 : (deq (D.int ((3 : Nat) : Int)) (D.int 3) == false) = false := by decide
      simp only [DS.wSs, DS.wS, DS.wE, DS.wEs, DS.wAs, DS.wOI, DS.wCs, DS.asK, DS.tkD, DS.avIos, DS.putOs, DS.setAll, DS.opW, DS.bindT, DS.bindTs, DS.startE, DS.mTy, DS.ex_some, DS.ex_publ, DS.ex_int, DS.ex_int2, DS.ex_tup, DS.s_add1, DS.s_add2, DS.s_add3, DS.s_add4, DS.s_sub, DS.s_mul1, DS.s_mul2, DS.s_fdiv, DS.s_mod, DS.s_pow, DS.s_neg, DS.s_cmp1, DS.s_cmp2, DS.s_eq, DS.s_isN, DS.s_in1, DS.s_in2, DS.s_in3, DS.s_in4, DS.s_idx1, DS.s_idx2, DS.s_idx3, DS.s_idx4, DS.s_slc1, DS.s_slc2, DS.s_slc3, DS.s_slc4, DS.s_rev, DS.s_len1, DS.s_len2, DS.s_len3, DS.s_len4, DS.s_len5, DS.s_list1, DS.s_list2, DS.s_list3, DS.s_tuple1, DS.s_tuple2, DS.s_dict1, DS.s_dict2, DS.s_max2, DS.s_min2, DS.s_abs, DS.s_isi, DS.s_sum, DS.s_join, DS.s_upper, DS.s_items, DS.s_vals, DS.s_all, DS.s_str1, DS.s_str2, DS.s_str3, DS.s_int1, DS.s_int2, DS.s_get1, DS.s_get2, DS.s_dct0, DS.s_fz1, DS.s_fz2, DS.s_fz3, DS.s_bf1, DS.s_bf2, DS.s_bf3, DS.s_tr0, DS.s_tr1, DS.s_tr2, DS.s_tr3, DS.s_tr4, DS.s_tr5, DS.s_tr6, DS.s_av0, DS.s_av1, DS.s_av2, DS.s_ag0, DS.s_ag1, DS.s_ag2, DS.s_ty1, DS.s_ty2, DS.s_ty3, DS.s_ix0, DS.s_at0, DS.ex_cons, DS.s_dep1, DS.s_dep2, DS.s_dep3, DS.s_key1, DS.s_key2, DS.s_key3, DS.s_ot0, DS.ex_one, DS.s_ot1, DS.s_sq1, DS.s_sq2, DS.s_sq3, DS.s_sq4, DS.s_rg1, DS.s_rg2, DS.s_en, DS.s_it, DS.s_vl, List.map_cons, List.map_nil, List.cons_append, List.nil_append, List.length_cons, List.length_nil, List.replicate, Nat.add_one_sub_one, Nat.reduceAdd, Nat.reduceSub, List.append_nil, List.getElem?_cons_zero, List.getElem?_cons_succ, List.set_cons_zero, List.set_cons_succ, Option.map_some, Option.some.injEq, exists_eq_left', exists_eq', exists_eq_left, DS.O.pu.injEq, DS.O.fl.injEq, DS.O.fd.injEq, DS.wipeE, DS.backE, Option.getD_some, Option.getD_none, DS.D.bl.injEq, true_and, and_true, if_true, if_false, reduceCtorEq, Bool.false_eq_true, List.nodup_nil, List.nodup_cons, List.not_mem_nil, not_false_eq_true, exists_const, DS.s_at20, DS.s_at21, DS.s_at30, DS.s_at31, DS.s_at32, DS.s_revt, DS.p_non, DS.i_int_non, DS.i_bool_non, DS.i_str_non, DS.i_tuple_non, DS.i_list_non, DS.i_dict_non, DS.i_lt_non, DS.p_bl, DS.i_int_bl, DS.i_bool_bl, DS.i_str_bl, DS.i_tuple_bl, DS.i_list_bl, DS.i_dict_bl, DS.i_lt_bl, DS.p_int, DS.i_int_int, DS.i_bool_int, DS.i_str_int, DS.i_tuple_int, DS.i_list_int, DS.i_dict_int, DS.i_lt_int, DS.p_str, DS.i_int_str, DS.i_bool_str, DS.i_str_str, DS.i_tuple_str, DS.i_list_str, DS.i_dict_str, DS.i_lt_str, DS.p_lst, DS.i_int_lst, DS.i_bool_lst, DS.i_str_lst, DS.i_tuple_lst, DS.i_list_lst, DS.i_dict_lst, DS.i_lt_lst, DS.p_tup, DS.i_int_tup, DS.i_bool_tup, DS.i_str_tup, DS.i_tuple_tup, DS.i_list_tup, DS.i_dict_tup, DS.i_lt_tup, DS.p_dct, DS.i_int_dct, DS.i_bool_dct, DS.i_str_dct, DS.i_tuple_dct, DS.i_list_dct, DS.i_dict_dct, DS.i_lt_dct, DS.ite_tt, DS.ite_ff, Bool.not_true, Bool.not_false, true_and, e3]
      exact ⟨cmp_int, r2_ok h18 al ar ab fun e => hk⟩
    | _ :: _ :: _ :: _ :: ys, hd, hk =>
      simp only [DS.wSs, DS.wS, DS.wE, DS.wEs, DS.wAs, DS.wOI, DS.wCs, DS.asK, DS.tkD, DS.avIos, DS.putOs, DS.setAll, DS.opW, DS.bindT, DS.bindTs, DS.startE, DS.mTy, DS.ex_some, DS.ex_publ, DS.ex_int, DS.ex_int2, DS.ex_tup, DS.s_add1, DS.s_add2, DS.s_add3, DS.s_add4, DS.s_sub, DS.s_mul1, DS.s_mul2, DS.s_fdiv, DS.s_mod, DS.s_pow, DS.s_neg, DS.s_cmp1, DS.s_cmp2, DS.s_eq, DS.s_isN, DS.s_in1, DS.s_in2, DS.s_in3, DS.s_in4, DS.s_idx1, DS.s_idx2, DS.s_idx3, DS.s_idx4, DS.s_slc1, DS.s_slc2, DS.s_slc3, DS.s_slc4, DS.s_rev, DS.s_len1, DS.s_len2, DS.s_len3, DS.s_len4, DS.s_len5, DS.s_list1, DS.s_list2, DS.s_list3, DS.s_tuple1, DS.s_tuple2, DS.s_dict1, DS.s_dict2, DS.s_max2, DS.s_min2, DS.s_abs, DS.s_isi, DS.s_sum, DS.s_join, DS.s_upper, DS.s_items, DS.s_vals, DS.s_all, DS.s_str1, DS.s_str2, DS.s_str3, DS.s_int1, DS.s_int2, DS.s_get1, DS.s_get2, DS.s_dct0, DS.s_fz1, DS.s_fz2, DS.s_fz3, DS.s_bf1, DS.s_bf2, DS.s_bf3, DS.s_tr0, DS.s_tr1, DS.s_tr2, DS.s_tr3, DS.s_tr4, DS.s_tr5, DS.s_tr6, DS.s_av0, DS.s_av1, DS.s_av2, DS.s_ag0, DS.s_ag1, DS.s_ag2, DS.s_ty1, DS.s_ty2, DS.s_ty3, DS.s_ix0, DS.s_at0, DS.ex_cons, DS.s_dep1, DS.s_dep2, DS.s_dep3, DS.s_key1, DS.s_key2, DS.s_key3, DS.s_ot0, DS.ex_one, DS.s_ot1, DS.s_sq1, DS.s_sq2, DS.s_sq3, DS.s_sq4, DS.s_rg1, DS.s_rg2, DS.s_en, DS.s_it, DS.s_vl, List.map_cons, List.map_nil, List.cons_append, List.nil_append, List.length_cons, List.length_nil, List.replicate, Nat.add_one_sub_one, Nat.reduceAdd, Nat.reduceSub, List.append_nil, List.getElem?_cons_zero, List.getElem?_cons_succ, List.set_cons_zero, List.set_cons_succ, Option.map_some, Option.some.injEq, exists_eq_left', exists_eq', exists_eq_left, DS.O.pu.injEq, DS.O.fl.injEq, DS.O.fd.injEq, DS.wipeE, DS.backE, Option.getD_some, Option.getD_none, DS.D.bl.injEq, true_and, and_true, if_true, if_false, reduceCtorEq, Bool.false_eq_true, List.nodup_nil, List.nodup_cons, List.not_mem_nil, not_false_eq_true, exists_const, DS.s_at20, DS.s_at21, DS.s_at30, DS.s_at31, DS.s_at32, DS.s_revt, DS.p_non, DS.i_int_non, DS.i_bool_non, DS.i_str_non, DS.i_tuple_non, DS.i_list_non, DS.i_dict_non, DS.i_lt_non, DS.p_bl, DS.i_int_bl, DS.i_bool_bl, DS.i_str_bl, DS.i_tuple_bl, DS.i_list_bl, DS.i_dict_bl, DS.i_lt_bl, DS.p_int, DS.i_int_int, DS.i_bool_int, DS.i_str_int, DS.i_tuple_int, DS.i_list_int, DS.i_dict_int, DS.i_lt_int, DS.p_str, DS.i_int_str, DS.i_bool_str, DS.i_str_str, DS.i_tuple_str, DS.i_list_str, DS.i_dict_str, DS.i_lt_str, DS.p_lst, DS.i_int_lst, DS.i_bool_lst, DS.i_str_lst, DS.i_tuple_lst, DS.i_list_lst, DS.i_dict_lst, DS.i_lt_lst, DS.p_tup, DS.i_int_tup, DS.i_bool_tup, DS.i_str_tup, DS.i_tuple_tup, DS.i_list_tup, DS.i_dict_tup, DS.i_lt_tup, DS.p_dct, DS.i_int_dct, DS.i_bool_dct, DS.i_str_dct, DS.i_tuple_dct, DS.i_list_dct, DS.i_dict_dct, DS.i_lt_dct, DS.ite_tt, DS.ite_ff, Bool.not_true, Bool.not_false, true_and]
      refine ⟨cmp_int, ?_⟩
      have e3 : (deq (D.int ((ys.length + 1 + 1 + 1 + 1 : Nat) : Int)) (D.int 3) == false) = true := by rw [deq_int, decide_eq_false (by omega)]; rfl
      simp only [e3, DS.wSs, DS.wS, DS.wE, DS.wEs, DS.wAs, DS.wOI, DS.wCs, DS.asK, DS.tkD, DS.avIos, DS.putOs, DS.setAll, DS.opW, DS.bindT, DS.bindTs, DS.startE, DS.mTy, DS.ex_some, DS.ex_publ, DS.ex_int, DS.ex_int2, DS.ex_tup, DS.s_add1, DS.s_add2, DS.s_add3, DS.s_add4, DS.s_sub, DS.s_mul1, DS.s_mul2, DS.s_fdiv, DS.s_mod, DS.s_pow, DS.s_neg, DS.s_cmp1, DS.s_cmp2, DS.s_eq, DS.s_isN, DS.s_in1, DS.s_in2, DS.s_in3, DS.s_in4, DS.s_idx1, DS.s_idx2, DS.s_idx3, DS.s_idx4, DS.s_slc1, DS.s_slc2, DS.s_slc3, DS.s_slc4, DS.s_rev, DS.s_len1, DS.s_len2, DS.s_len3, DS.s_len4, DS.s_len5, DS.s_list1, DS.s_list2, DS.s_list3, DS.s_tuple1, DS.s_tuple2, DS.s_dict1, DS.s_dict2, DS.s_max2, DS.s_min2, DS.s_abs, DS.s_isi, DS.s_sum, DS.s_join, DS.s_upper, DS.s_items, DS.s_vals, DS.s_all, DS.s_str1, DS.s_str2, DS.s_str3, DS.s_int1, DS.s_int2, DS.s_get1, DS.s_get2, DS.s_dct0, DS.s_fz1, DS.s_fz2, DS.s_fz3, DS.s_bf1, DS.s_bf2, DS.s_bf3, DS.s_tr0, DS.s_tr1, DS.s_tr2, DS.s_tr3, DS.s_tr4, DS.s_tr5, DS.s_tr6, DS.s_av0, DS.s_av1, DS.s_av2, DS.s_ag0, DS.s_ag1, DS.s_ag2, DS.s_ty1, DS.s_ty2, DS.s_ty3, DS.s_ix0, DS.s_at0, DS.ex_cons, DS.s_dep1, DS.s_dep2, DS.s_dep3, DS.s_key1, DS.s_key2, DS.s_key3, DS.s_ot0, DS.ex_one, DS.s_ot1, DS.s_sq1, DS.s_sq2, DS.s_sq3, DS.s_sq4, DS.s_rg1, DS.s_rg2, DS.s_en, DS.s_it, DS.s_vl, List.map_cons, List.map_nil, List.cons_append, List.nil_append, List.length_cons, List.length_nil, List.replicate, Nat.add_one_sub_one, Nat.reduceAdd, Nat.reduceSub, List.append_nil, List.getElem?_cons_zero, List.getElem?_cons_succ, List.set_cons_zero, List.set_cons_succ, Option.map_some, Option.some.injEq, exists_eq_left', exists_eq', exists_eq_left, DS.O.pu.injEq, DS.O.fl.injEq, DS.O.fd.injEq, DS.wipeE, DS.backE, Option.getD_some, Option.getD_none, DS.D.bl.injEq, true_and, and_true, if_true, if_false, reduceCtorEq, Bool.false_eq_true, List.nodup_nil, List.nodup_cons, List.not_mem_nil, not_false_eq_true, exists_const, DS.s_at20, DS.s_at21, DS.s_at30, DS.s_at31, DS.s_at32, DS.s_revt, DS.p_non, DS.i_int_non, DS.i_bool_non, DS.i_str_non, DS.i_tuple_non, DS.i_list_non, DS.i_dict_non, DS.i_lt_non, DS.p_bl, DS.i_int_bl, DS.i_bool_bl, DS.i_str_bl, DS.i_tuple_bl, DS.i_list_bl, DS.i_dict_bl, DS.i_lt_bl, DS.p_int, DS.i_int_int, DS.i_bool_int, DS.i_str_int, DS.i_tuple_int, DS.i_list_int, DS.i_dict_int, DS.i_lt_int, DS.p_str, DS.i_int_str, DS.i_bool_str, DS.i_str_str, DS.i_tuple_str, DS.i_list_str, DS.i_dict_str, DS.i_lt_str, DS.p_lst, DS.i_int_lst, DS.i_bool_lst, DS.i_str_lst, DS.i_tuple_lst, DS.i_list_lst, DS.i_dict_lst, DS.i_lt_lst, DS.p_tup, DS.i_int_tup, DS.i_bool_tup, DS.i_str_tup, DS.i_tuple_tup, DS.i_list_tup, DS.i_dict_tup, DS.i_lt_tup, DS.p_dct, DS.i_int_dct, DS.i_bool_dct, DS.i_str_dct, DS.i_tuple_dct, DS.i_list_dct, DS.i_dict_dct, DS.i_lt_dct, DS.ite_tt, DS.ite_ff, Bool.not_true, Bool.not_false, true_and]
      exact hk
  | _ => simp only [DS.wSs, DS.wS, DS.wE, DS.wEs, DS.wAs, DS.wOI, DS.wCs, DS.asK, DS.tkD, DS.avIos, DS.putOs, DS.setAll, DS.opW, DS.bindT, DS.bindTs, DS.startE, DS.mTy, DS.ex_some, DS.ex_publ, DS.ex_int, DS.ex_int2, DS.ex_tup, DS.s_add1, DS.s_add2, DS.s_add3, DS.s_add4, DS.s_sub, DS.s_mul1, DS.s_mul2, DS.s_fdiv, DS.s_mod, DS.s_pow, DS.s_neg, DS.s_cmp1, DS.s_cmp2, DS.s_eq, DS.s_isN, DS.s_in1, DS.s_in2, DS.s_in3, DS.s_in4, DS.s_idx1, DS.s_idx2, DS.s_idx3, DS.s_idx4, DS.s_slc1, DS.s_slc2, DS.s_slc3, DS.s_slc4, DS.s_rev, DS.s_len1, DS.s_len2, DS.s_len3, DS.s_len4, DS.s_len5, DS.s_list1, DS.s_list2, DS.s_list3, DS.s_tuple1, DS.s_tuple2, DS.s_dict1, DS.s_dict2, DS.s_max2, DS.s_min2, DS.s_abs, DS.s_isi, DS.s_sum, DS.s_join, DS.s_upper, DS.s_items, DS.s_vals, DS.s_all, DS.s_str1, DS.s_str2, DS.s_str3, DS.s_int1, DS.s_int2, DS.s_get1, DS.s_get2, DS.s_dct0, DS.s_fz1, DS.s_fz2, DS.s_fz3, DS.s_bf1, DS.s_bf2, DS.s_bf3, DS.s_tr0, DS.s_tr1, DS.s_tr2, DS.s_tr3, DS.s_tr4, DS.s_tr5, DS.s_tr6, DS.s_av0, DS.s_av1, DS.s_av2, DS.s_ag0, DS.s_ag1, DS.s_ag2, DS.s_ty1, DS.s_ty2, DS.s_ty3, DS.s_ix0, DS.s_at0, DS.ex_cons, DS.s_dep1, DS.s_dep2, DS.s_dep3, DS.s_key1, DS.s_key2, DS.s_key3, DS.s_ot0, DS.ex_one, DS.s_ot1, DS.s_sq1, DS.s_sq2, DS.s_sq3, DS.s_sq4, DS.s_rg1, DS.s_rg2, DS.s_en, DS.s_it, DS.s_vl, List.map_cons, List.map_nil, List.cons_append, List.nil_append, List.length_cons, List.length_nil, List.replicate, Nat.add_one_sub_one, Nat.reduceAdd, Nat.reduceSub, List.append_nil, List.getElem?_cons_zero, List.getElem?_cons_succ, List.set_cons_zero, List.set_cons_succ, Option.map_some, Option.some.injEq, exists_eq_left', exists_eq', exists_eq_left, DS.O.pu.injEq, DS.O.fl.injEq, DS.O.fd.injEq, DS.wipeE, DS.backE, Option.getD_some, Option.getD_none, DS.D.bl.injEq, true_and, and_true, if_true, if_false, reduceCtorEq, Bool.false_eq_true, List.nodup_nil, List.nodup_cons, List.not_mem_nil, not_false_eq_true, exists_const, DS.s_at20, DS.s_at21, DS.s_at30, DS.s_at31, DS.s_at32, DS.s_revt, DS.p_non, DS.i_int_non, DS.i_bool_non, DS.i_str_non, DS.i_tuple_non, DS.i_list_non, DS.i_dict_non, DS.i_lt_non, DS.p_bl, DS.i_int_bl, DS.i_bool_bl, DS.i_str_bl, DS.i_tuple_bl, DS.i_list_bl, DS.i_dict_bl, DS.i_lt_bl, DS.p_int, DS.i_int_int, DS.i_bool_int, DS.i_str_int, DS.i_tuple_int, DS.i_list_int, DS.i_dict_int, DS.i_lt_int, DS.p_str, DS.i_int_str, DS.i_bool_str, DS.i_str_str, DS.i_tuple_str, DS.i_list_str, DS.i_dict_str, DS.i_lt_str, DS.p_lst, DS.i_int_lst, DS.i_bool_lst, DS.i_str_lst, DS.i_tuple_lst, DS.i_list_lst, DS.i_dict_lst, DS.i_lt_lst, DS.p_tup, DS.i_int_tup, DS.i_bool_tup, DS.i_str_tup, DS.i_tuple_tup, DS.i_list_tup, DS.i_dict_tup, DS.i_lt_tup, DS.p_dct, DS.i_int_dct, DS.i_bool_dct, DS.i_str_dct, DS.i_tuple_dct, DS.i_list_dct, DS.i_dict_dct, DS.i_lt_dct, DS.ite_tt, DS.ite_ff, Bool.not_true, Bool.not_false, true_and]; exact hk
end K01
namespace K01
open PySem PySem.Spec PyProof.Rows L2 DS
def fsRight : FS := fun args K R => ∃ (d : D), args = [.pu d] ∧ Askd d ∧ Ask3 d ∧ K (.pu (.bl true)) []
def bS (b : Bool) : Str := if b = true then "True" else "False"
theorem ok20 {Γ : Gam} (h1 : Γ 1 = fsName) (h3 : Γ 3 = fsCons) (h18 : Γ 18 = fsName) (h19 : Γ 19 = fsRowIs) : Fn.Ok Γ f20 fsRight := by
  rintro args K R ⟨d, rfl, hd, hd3, hk⟩
  refine ⟨rfl, ?_⟩
  have hsz := sizeLine_eq
  unfold f20
  simp only [DS.wSs, DS.wS, DS.wE, DS.wEs, DS.wAs, DS.wOI, DS.wCs, DS.asK, DS.tkD, DS.avIos, DS.putOs, DS.setAll, DS.opW, DS.bindT, DS.bindTs, DS.startE, DS.mTy, DS.ex_some, DS.ex_publ, DS.ex_int, DS.ex_int2, DS.ex_tup, DS.s_add1, DS.s_add2, DS.s_add3, DS.s_add4, DS.s_sub, DS.s_mul1, DS.s_mul2, DS.s_fdiv, DS.s_mod, DS.s_pow, DS.s_neg, DS.s_cmp1, DS.s_cmp2, DS.s_eq, DS.s_isN, DS.s_in1, DS.s_in2, DS.s_in3, DS.s_in4, DS.s_idx1, DS.s_idx2, DS.s_idx3, DS.s_idx4, DS.s_slc1, DS.s_slc2, DS.s_slc3, DS.s_slc4, DS.s_rev, DS.s_len1, DS.s_len2, DS.s_len3, DS.s_len4, DS.s_len5, DS.s_list1, DS.s_list2, DS.s_list3, DS.s_tuple1, DS.s_tuple2, DS.s_dict1, DS.s_dict2, DS.s_max2, DS.s_min2, DS.s_abs, DS.s_isi, DS.s_sum, DS.s_join, DS.s_upper, DS.s_items, DS.s_vals, DS.s_all, DS.s_str1, DS.s_str2, DS.s_str3, DS.s_int1, DS.s_int2, DS.s_get1, DS.s_get2, DS.s_dct0, DS.s_fz1, DS.s_fz2, DS.s_fz3, DS.s_bf1, DS.s_bf2, DS.s_bf3, DS.s_tr0, DS.s_tr1, DS.s_tr2, DS.s_tr3, DS.s_tr4, DS.s_tr5, DS.s_tr6, DS.s_av0, DS.s_av1, DS.s_av2, DS.s_ag0, DS.s_ag1, DS.s_ag2, DS.s_ty1, DS.s_ty2, DS.s_ty3, DS.s_ix0, DS.s_at0, DS.ex_cons, DS.s_dep1, DS.s_dep2, DS.s_dep3, DS.s_key1, DS.s_key2, DS.s_key3, DS.s_ot0, DS.ex_one, DS.s_ot1, DS.s_sq1, DS.s_sq2, DS.s_sq3, DS.s_sq4, DS.s_rg1, DS.s_rg2, DS.s_en, DS.s_it, DS.s_vl, List.map_cons, List.map_nil, List.cons_append, List.nil_append, List.length_cons, List.length_nil, List.replicate, Nat.add_one_sub_one, Nat.reduceAdd, Nat.reduceSub, List.append_nil, List.getElem?_cons_zero, List.getElem?_cons_succ, List.set_cons_zero, List.set_cons_succ, Option.map_some, Option.some.injEq, exists_eq_left', exists_eq', exists_eq_left, DS.O.pu.injEq, DS.O.fl.injEq, DS.O.fd.injEq, DS.wipeE, DS.backE, Option.getD_some, Option.getD_none, DS.D.bl.injEq, true_and, and_true, if_true, if_false, reduceCtorEq, Bool.false_eq_true, List.nodup_nil, List.nodup_cons, List.not_mem_nil, not_false_eq_true, exists_const, DS.s_at20, DS.s_at21, DS.s_at30, DS.s_at31, DS.s_at32, DS.s_revt, DS.p_non, DS.i_int_non, DS.i_bool_non, DS.i_str_non, DS.i_tuple_non, DS.i_list_non, DS.i_dict_non, DS.i_lt_non, DS.p_bl, DS.i_int_bl, DS.i_bool_bl, DS.i_str_bl, DS.i_tuple_bl, DS.i_list_bl, DS.i_dict_bl, DS.i_lt_bl, DS.p_int, DS.i_int_int, DS.i_bool_int, DS.i_str_int, DS.i_tuple_int, DS.i_list_int, DS.i_dict_int, DS.i_lt_int, DS.p_str, DS.i_int_str, DS.i_bool_str, DS.i_str_str, DS.i_tuple_str, DS.i_list_str, DS.i_dict_str, DS.i_lt_str, DS.p_lst, DS.i_int_lst, DS.i_bool_lst, DS.i_str_lst, DS.i_tuple_lst, DS.i_list_lst, DS.i_dict_lst, DS.i_lt_lst, DS.p_tup, DS.i_int_tup, DS.i_bool_tup, DS.i_str_tup, DS.i_tuple_tup, DS.i_list_tup, DS.i_dict_tup, DS.i_lt_tup, DS.p_dct, DS.i_int_dct, DS.i_bool_dct, DS.i_str_dct, DS.i_tuple_dct, DS.i_list_dct, DS.i_dict_dct, DS.i_lt_dct, DS.ite_tt, DS.ite_ff, Bool.not_true, Bool.not_false, true_and, h1]
  refine ⟨d, rfl, hd, rfl, ?_⟩
  simp only [DS.wSs, DS.wS, DS.wE, DS.wEs, DS.wAs, DS.wOI, DS.wCs, DS.asK, DS.tkD, DS.avIos, DS.putOs, DS.setAll, DS.opW, DS.bindT, DS.bindTs, DS.startE, DS.mTy, DS.ex_some, DS.ex_publ, DS.ex_int, DS.ex_int2, DS.ex_tup, DS.s_add1, DS.s_add2, DS.s_add3, DS.s_add4, DS.s_sub, DS.s_mul1, DS.s_mul2, DS.s_fdiv, DS.s_mod, DS.s_pow, DS.s_neg, DS.s_cmp1, DS.s_cmp2, DS.s_eq, DS.s_isN, DS.s_in1, DS.s_in2, DS.s_in3, DS.s_in4, DS.s_idx1, DS.s_idx2, DS.s_idx3, DS.s_idx4, DS.s_slc1, DS.s_slc2, DS.s_slc3, DS.s_slc4, DS.s_rev, DS.s_len1, DS.s_len2, DS.s_len3, DS.s_len4, DS.s_len5, DS.s_list1, DS.s_list2, DS.s_list3, DS.s_tuple1, DS.s_tuple2, DS.s_dict1, DS.s_dict2, DS.s_max2, DS.s_min2, DS.s_abs, DS.s_isi, DS.s_sum, DS.s_join, DS.s_upper, DS.s_items, DS.s_vals, DS.s_all, DS.s_str1, DS.s_str2, DS.s_str3, DS.s_int1, DS.s_int2, DS.s_get1, DS.s_get2, DS.s_dct0, DS.s_fz1, DS.s_fz2, DS.s_fz3, DS.s_bf1, DS.s_bf2, DS.s_bf3, DS.s_tr0, DS.s_tr1, DS.s_tr2, DS.s_tr3, DS.s_tr4, DS.s_tr5, DS.s_tr6, DS.s_av0, DS.s_av1, DS.s_av2, DS.s_ag0, DS.s_ag1, DS.s_ag2, DS.s_ty1, DS.s_ty2, DS.s_ty3, DS.s_ix0, DS.s_at0, DS.ex_cons, DS.s_dep1, DS.s_dep2, DS.s_dep3, DS.s_key1, DS.s_key2, DS.s_key3, DS.s_ot0, DS.ex_one, DS.s_ot1, DS.s_sq1, DS.s_sq2, DS.s_sq3, DS.s_sq4, DS.s_rg1, DS.s_rg2, DS.s_en, DS.s_it, DS.s_vl, List.map_cons, List.map_nil, List.cons_append, List.nil_append, List.length_cons, List.length_nil, List.replicate, Nat.add_one_sub_one, Nat.reduceAdd, Nat.reduceSub, List.append_nil, List.getElem?_cons_zero, List.getElem?_cons_succ, List.set_cons_zero, List.set_cons_succ, Option.map_some, Option.some.injEq, exists_eq_left', exists_eq', exists_eq_left, DS.O.pu.injEq, DS.O.fl.injEq, DS.O.fd.injEq, DS.wipeE, DS.backE, Option.getD_some, Option.getD_none, DS.D.bl.injEq, true_and, and_true, if_true, if_false, reduceCtorEq, Bool.false_eq_true, List.nodup_nil, List.nodup_cons, List.not_mem_nil, not_false_eq_true, exists_const, DS.s_at20, DS.s_at21, DS.s_at30, DS.s_at31, DS.s_at32, DS.s_revt, DS.p_non, DS.i_int_non, DS.i_bool_non, DS.i_str_non, DS.i_tuple_non, DS.i_list_non, DS.i_dict_non, DS.i_lt_non, DS.p_bl, DS.i_int_bl, DS.i_bool_bl, DS.i_str_bl, DS.i_tuple_bl, DS.i_list_bl, DS.i_dict_bl, DS.i_lt_bl, DS.p_int, DS.i_int_int, DS.i_bool_int, DS.i_str_int, DS.i_tuple_int, DS.i_list_int, DS.i_dict_int, DS.i_lt_int, DS.p_str, DS.i_int_str, DS.i_bool_str, DS.i_str_str, DS.i_tuple_str, DS.i_list_str, DS.i_dict_str, DS.i_lt_str, DS.p_lst, DS.i_int_lst, DS.i_bool_lst, DS.i_str_lst, DS.i_tuple_lst, DS.i_list_lst, DS.i_dict_lst, DS.i_lt_lst, DS.p_tup, DS.i_int_tup, DS.i_bool_tup, DS.i_str_tup, DS.i_tuple_tup, DS.i_list_tup, DS.i_dict_tup, DS.i_lt_tup, DS.p_dct, DS.i_int_dct, DS.i_bool_dct, DS.i_str_dct, DS.i_tuple_dct, DS.i_list_dct, DS.i_dict_dct, DS.i_lt_dct, DS.ite_tt, DS.ite_ff, Bool.not_true, Bool.not_false, true_and, h3]
  refine ⟨d, rfl, hd3, rfl, ?_⟩
  simp only [compW, DS.wSs, DS.wS, DS.wE, DS.wEs, DS.wAs, DS.wOI, DS.wCs, DS.asK, DS.tkD, DS.avIos, DS.putOs, DS.setAll, DS.opW, DS.bindT, DS.bindTs, DS.startE, DS.mTy, DS.ex_some, DS.ex_publ, DS.ex_int, DS.ex_int2, DS.ex_tup, DS.s_add1, DS.s_add2, DS.s_add3, DS.s_add4, DS.s_sub, DS.s_mul1, DS.s_mul2, DS.s_fdiv, DS.s_mod, DS.s_pow, DS.s_neg, DS.s_cmp1, DS.s_cmp2, DS.s_eq, DS.s_isN, DS.s_in1, DS.s_in2, DS.s_in3, DS.s_in4, DS.s_idx1, DS.s_idx2, DS.s_idx3, DS.s_idx4, DS.s_slc1, DS.s_slc2, DS.s_slc3, DS.s_slc4, DS.s_rev, DS.s_len1, DS.s_len2, DS.s_len3, DS.s_len4, DS.s_len5, DS.s_list1, DS.s_list2, DS.s_list3, DS.s_tuple1, DS.s_tuple2, DS.s_dict1, DS.s_dict2, DS.s_max2, DS.s_min2, DS.s_abs, DS.s_isi, DS.s_sum, DS.s_join, DS.s_upper, DS.s_items, DS.s_vals, DS.s_all, DS.s_str1, DS.s_str2, DS.s_str3, DS.s_int1, DS.s_int2, DS.s_get1, DS.s_get2, DS.s_dct0, DS.s_fz1, DS.s_fz2, DS.s_fz3, DS.s_bf1, DS.s_bf2, DS.s_bf3, DS.s_tr0, DS.s_tr1, DS.s_tr2, DS.s_tr3, DS.s_tr4, DS.s_tr5, DS.s_tr6, DS.s_av0, DS.s_av1, DS.s_av2, DS.s_ag0, DS.s_ag1, DS.s_ag2, DS.s_ty1, DS.s_ty2, DS.s_ty3, DS.s_ix0, DS.s_at0, DS.ex_cons, DS.s_dep1, DS.s_dep2, DS.s_dep3, DS.s_key1, DS.s_key2, DS.s_key3, DS.s_ot0, DS.ex_one, DS.s_ot1, DS.s_sq1, DS.s_sq2, DS.s_sq3, DS.s_sq4, DS.s_rg1, DS.s_rg2, DS.s_en, DS.s_it, DS.s_vl, List.map_cons, List.map_nil, List.cons_append, List.nil_append, List.length_cons, List.length_nil, List.replicate, Nat.add_one_sub_one, Nat.reduceAdd, Nat.reduceSub, List.append_nil, List.getElem?_cons_zero, List.getElem?_cons_succ, List.set_cons_zero, List.set_cons_succ, Option.map_some, Option.some.injEq, exists_eq_left', exists_eq', exists_eq_left, DS.O.pu.injEq, DS.O.fl.injEq, DS.O.fd.injEq, DS.wipeE, DS.backE, Option.getD_some, Option.getD_none, DS.D.bl.injEq, true_and, and_true, if_true, if_false, reduceCtorEq, Bool.false_eq_true, List.nodup_nil, List.nodup_cons, List.not_mem_nil, not_false_eq_true, exists_const, DS.s_at20, DS.s_at21, DS.s_at30, DS.s_at31, DS.s_at32, DS.s_revt, DS.p_non, DS.i_int_non, DS.i_bool_non, DS.i_str_non, DS.i_tuple_non, DS.i_list_non, DS.i_dict_non, DS.i_lt_non, DS.p_bl, DS.i_int_bl, DS.i_bool_bl, DS.i_str_bl, DS.i_tuple_bl, DS.i_list_bl, DS.i_dict_bl, DS.i_lt_bl, DS.p_int, DS.i_int_int, DS.i_bool_int, DS.i_str_int, DS.i_tuple_int, DS.i_list_int, DS.i_dict_int, DS.i_lt_int, DS.p_str, DS.i_int_str, DS.i_bool_str, DS.i_str_str, DS.i_tuple_str, DS.i_list_str, DS.i_dict_str, DS.i_lt_str, DS.p_lst, DS.i_int_lst, DS.i_bool_lst, DS.i_str_lst, DS.i_tuple_lst, DS.i_list_lst, DS.i_dict_lst, DS.i_lt_lst, DS.p_tup, DS.i_int_tup, DS.i_bool_tup, DS.i_str_tup, DS.i_tuple_tup, DS.i_list_tup, DS.i_dict_tup, DS.i_lt_tup, DS.p_dct, DS.i_int_dct, DS.i_bool_dct, DS.i_str_dct, DS.i_tuple_dct, DS.i_list_dct, DS.i_dict_dct, DS.i_lt_dct, DS.ite_tt, DS.ite_ff, Bool.not_true, Bool.not_false, true_and, h18, h19, List.nil_append, List.cons_append, List.length_nil, List.length_cons]
  refine ⟨by omega, by omega, by omega, d, rfl, hd, rfl, ?_⟩
  simp only [DS.wSs, DS.wS, DS.wE, DS.wEs, DS.wAs, DS.wOI, DS.wCs, DS.asK, DS.tkD, DS.avIos, DS.putOs, DS.setAll, DS.opW, DS.bindT, DS.bindTs, DS.startE, DS.mTy, DS.ex_some, DS.ex_publ, DS.ex_int, DS.ex_int2, DS.ex_tup, DS.s_add1, DS.s_add2, DS.s_add3, DS.s_add4, DS.s_sub, DS.s_mul1, DS.s_mul2, DS.s_fdiv, DS.s_mod, DS.s_pow, DS.s_neg, DS.s_cmp1, DS.s_cmp2, DS.s_eq, DS.s_isN, DS.s_in1, DS.s_in2, DS.s_in3, DS.s_in4, DS.s_idx1, DS.s_idx2, DS.s_idx3, DS.s_idx4, DS.s_slc1, DS.s_slc2, DS.s_slc3, DS.s_slc4, DS.s_rev, DS.s_len1, DS.s_len2, DS.s_len3, DS.s_len4, DS.s_len5, DS.s_list1, DS.s_list2, DS.s_list3, DS.s_tuple1, DS.s_tuple2, DS.s_dict1, DS.s_dict2, DS.s_max2, DS.s_min2, DS.s_abs, DS.s_isi, DS.s_sum, DS.s_join, DS.s_upper, DS.s_items, DS.s_vals, DS.s_all, DS.s_str1, DS.s_str2, DS.s_str3, DS.s_int1, DS.s_int2, DS.s_get1, DS.s_get2, DS.s_dct0, DS.s_fz1, DS.s_fz2, DS.s_fz3, DS.s_bf1, DS.s_bf2, DS.s_bf3, DS.s_tr0, DS.s_tr1, DS.s_tr2, DS.s_tr3, DS.s_tr4, DS.s_tr5, DS.s_tr6, DS.s_av0, DS.s_av1, DS.s_av2, DS.s_ag0, DS.s_ag1, DS.s_ag2, DS.s_ty1, DS.s_ty2, DS.s_ty3, DS.s_ix0, DS.s_at0, DS.ex_cons, DS.s_dep1, DS.s_dep2, DS.s_dep3, DS.s_key1, DS.s_key2, DS.s_key3, DS.s_ot0, DS.ex_one, DS.s_ot1, DS.s_sq1, DS.s_sq2, DS.s_sq3, DS.s_sq4, DS.s_rg1, DS.s_rg2, DS.s_en, DS.s_it, DS.s_vl, List.map_cons, List.map_nil, List.cons_append, List.nil_append, List.length_cons, List.length_nil, List.replicate, Nat.add_one_sub_one, Nat.reduceAdd, Nat.reduceSub, List.append_nil, List.getElem?_cons_zero, List.getElem?_cons_succ, List.set_cons_zero, List.set_cons_succ, Option.map_some, Option.some.injEq, exists_eq_left', exists_eq', exists_eq_left, DS.O.pu.injEq, DS.O.fl.injEq, DS.O.fd.injEq, DS.wipeE, DS.backE, Option.getD_some, Option.getD_none, DS.D.bl.injEq, true_and, and_true, if_true, if_false, reduceCtorEq, Bool.false_eq_true, List.nodup_nil, List.nodup_cons, List.not_mem_nil, not_false_eq_true, exists_const, DS.s_at20, DS.s_at21, DS.s_at30, DS.s_at31, DS.s_at32, DS.s_revt, DS.p_non, DS.i_int_non, DS.i_bool_non, DS.i_str_non, DS.i_tuple_non, DS.i_list_non, DS.i_dict_non, DS.i_lt_non, DS.p_bl, DS.i_int_bl, DS.i_bool_bl, DS.i_str_bl, DS.i_tuple_bl, DS.i_list_bl, DS.i_dict_bl, DS.i_lt_bl, DS.p_int, DS.i_int_int, DS.i_bool_int, DS.i_str_int, DS.i_tuple_int, DS.i_list_int, DS.i_dict_int, DS.i_lt_int, DS.p_str, DS.i_int_str, DS.i_bool_str, DS.i_str_str, DS.i_tuple_str, DS.i_list_str, DS.i_dict_str, DS.i_lt_str, DS.p_lst, DS.i_int_lst, DS.i_bool_lst, DS.i_str_lst, DS.i_tuple_lst, DS.i_list_lst, DS.i_dict_lst, DS.i_lt_lst, DS.p_tup, DS.i_int_tup, DS.i_bool_tup, DS.i_str_tup, DS.i_tuple_tup, DS.i_list_tup, DS.i_dict_tup, DS.i_lt_tup, DS.p_dct, DS.i_int_dct, DS.i_bool_dct, DS.i_str_dct, DS.i_tuple_dct, DS.i_list_dct, DS.i_dict_dct, DS.i_lt_dct, DS.ite_tt, DS.ite_ff, Bool.not_true, Bool.not_false, true_and]
  refine ⟨d, rfl, hd3, rfl, ?_⟩
  simp only [DS.wSs, DS.wS, DS.wE, DS.wEs, DS.wAs, DS.wOI, DS.wCs, DS.asK, DS.tkD, DS.avIos, DS.putOs, DS.setAll, DS.opW, DS.bindT, DS.bindTs, DS.startE, DS.mTy, DS.ex_some, DS.ex_publ, DS.ex_int, DS.ex_int2, DS.ex_tup, DS.s_add1, DS.s_add2, DS.s_add3, DS.s_add4, DS.s_sub, DS.s_mul1, DS.s_mul2, DS.s_fdiv, DS.s_mod, DS.s_pow, DS.s_neg, DS.s_cmp1, DS.s_cmp2, DS.s_eq, DS.s_isN, DS.s_in1, DS.s_in2, DS.s_in3, DS.s_in4, DS.s_idx1, DS.s_idx2, DS.s_idx3, DS.s_idx4, DS.s_slc1, DS.s_slc2, DS.s_slc3, DS.s_slc4, DS.s_rev, DS.s_len1, DS.s_len2, DS.s_len3, DS.s_len4, DS.s_len5, DS.s_list1, DS.s_list2, DS.s_list3, DS.s_tuple1, DS.s_tuple2, DS.s_dict1, DS.s_dict2, DS.s_max2, DS.s_min2, DS.s_abs, DS.s_isi, DS.s_sum, DS.s_join, DS.s_upper, DS.s_items, DS.s_vals, DS.s_all, DS.s_str1, DS.s_str2, DS.s_str3, DS.s_int1, DS.s_int2, DS.s_get1, DS.s_get2, DS.s_dct0, DS.s_fz1, DS.s_fz2, DS.s_fz3, DS.s_bf1, DS.s_bf2, DS.s_bf3, DS.s_tr0, DS.s_tr1, DS.s_tr2, DS.s_tr3, DS.s_tr4, DS.s_tr5, DS.s_tr6, DS.s_av0, DS.s_av1, DS.s_av2, DS.s_ag0, DS.s_ag1, DS.s_ag2, DS.s_ty1, DS.s_ty2, DS.s_ty3, DS.s_ix0, DS.s_at0, DS.ex_cons, DS.s_dep1, DS.s_dep2, DS.s_dep3, DS.s_key1, DS.s_key2, DS.s_key3, DS.s_ot0, DS.ex_one, DS.s_ot1, DS.s_sq1, DS.s_sq2, DS.s_sq3, DS.s_sq4, DS.s_rg1, DS.s_rg2, DS.s_en, DS.s_it, DS.s_vl, List.map_cons, List.map_nil, List.cons_append, List.nil_append, List.length_cons, List.length_nil, List.replicate, Nat.add_one_sub_one, Nat.reduceAdd, Nat.reduceSub, List.append_nil, List.getElem?_cons_zero, List.getElem?_cons_succ, List.set_cons_zero, List.set_cons_succ, Option.map_some, Option.some.injEq, exists_eq_left', exists_eq', exists_eq_left, DS.O.pu.injEq, DS.O.fl.injEq, DS.O.fd.injEq, DS.wipeE, DS.backE, Option.getD_some, Option.getD_none, DS.D.bl.injEq, true_and, and_true, if_true, if_false, reduceCtorEq, Bool.false_eq_true, List.nodup_nil, List.nodup_cons, List.not_mem_nil, not_false_eq_true, exists_const, DS.s_at20, DS.s_at21, DS.s_at30, DS.s_at31, DS.s_at32, DS.s_revt, DS.p_non, DS.i_int_non, DS.i_bool_non, DS.i_str_non, DS.i_tuple_non, DS.i_list_non, DS.i_dict_non, DS.i_lt_non, DS.p_bl, DS.i_int_bl, DS.i_bool_bl, DS.i_str_bl, DS.i_tuple_bl, DS.i_list_bl, DS.i_dict_bl, DS.i_lt_bl, DS.p_int, DS.i_int_int, DS.i_bool_int, DS.i_str_int, DS.i_tuple_int, DS.i_list_int, DS.i_dict_int, DS.i_lt_int, DS.p_str, DS.i_int_str, DS.i_bool_str, DS.i_str_str, DS.i_tuple_str, DS.i_list_str, DS.i_dict_str, DS.i_lt_str, DS.p_lst, DS.i_int_lst, DS.i_bool_lst, DS.i_str_lst, DS.i_tuple_lst, DS.i_list_lst, DS.i_dict_lst, DS.i_lt_lst, DS.p_tup, DS.i_int_tup, DS.i_bool_tup, DS.i_str_tup, DS.i_tuple_tup, DS.i_list_tup, DS.i_dict_tup, DS.i_lt_tup, DS.p_dct, DS.i_int_dct, DS.i_bool_dct, DS.i_str_dct, DS.i_tuple_dct, DS.i_list_dct, DS.i_dict_dct, DS.i_lt_dct, DS.ite_tt, DS.ite_ff, Bool.not_true, Bool.not_false, true_and]
  have e : deq (.lst [.str (if isName d = true then "True" else "False"), .str (if isCons d = true then "True" else "False")]) (.lst [.str (if isName d = true then "True" else "False"), .str (if isCons d = true then "True" else "False")]) = true := by
    simp [deq_lst, deqs_cons, deqs_nil, deq]
  refine ⟨by omega, ⟨by simp [comp, comps], by simp [depD, depDs]⟩, ?_⟩
  rw [e]
  exact hk
def b3 : List S := [.fo .seq [.op .lst [.var 5, .call 6 [.io 3, .var 4], .op .idx [.io 5, .con (.int 2)], .slc (.io 5) [] [.con (.int 2)]]] (.n 6) [.fo .rng [.call 5 [.io 3, .con (.int 4)]] (.n 7) [.set 6 (.call 17 [.io 3, .var 6])],
    .ifs (.notE (.call 20 [.var 6])) [.ret (.con (.bl false))] []]]
def b1 : List S := .set 3 (.call 4 [.var 2, .var 1]) ::
    .set 4 (.call 7 [.io 3, .op .add [.con (.int 1), .call 5 [.io 3, .con (.int 4)]]]) ::
    .set 5 (.call 10 [.io 3, .var 4, .call 8 [.io 3, .var 4]]) :: b3
theorem f21_eq : f21 = ⟨8, 1, [], heads 10 b1 [.ret (.con (.bl true))]⟩ := rfl
def Item (d : D) : Prop := Th 0 1 d
theorem len8 {e : Ev} (h : e.length = 8) : ∃ x0 x1 x2 x3 x4 x5 x6 x7, e = [x0, x1, x2, x3, x4, x5, x6, x7] := by
  match e, h with
  | [x0, x1, x2, x3, x4, x5, x6, x7], _ => exact ⟨_, _, _, _, _, _, _, _, rfl⟩
theorem ok21 {Γ : Gam} (h4 : Γ 4 = fsBegin) (h5 : Γ 5 = fsDraw) (h6 : Γ 6 = fsPick) (h7 : Γ 7 = fsNames) (h8 : Γ 8 = fsHidden) (h10 : Γ 10 = fsRow) (h17 : Γ 17 = fsBent 3) (h20 : Γ 20 = fsRight) : Fn.Ok Γ f21 fsLaw := by
  have hz := sizeLine_eq
  rw [f21_eq]
  refine head_of (k := 10) (by decide) ?_ ?_
  · intro t a e L rt bk R he ht hL
    obtain ⟨x0, x1, x2, x3, x4, x5, x6, x7, rfl⟩ := len8 he
    unfold b1
    simp only [DS.wSs, DS.wS, DS.wE, DS.wEs, DS.wAs, DS.wOI, DS.wCs, DS.asK, DS.tkD, DS.avIos, DS.putOs, DS.setAll, DS.opW, DS.bindT, DS.bindTs, DS.startE, DS.mTy, DS.ex_some, DS.ex_publ, DS.ex_int, DS.ex_int2, DS.ex_tup, DS.s_add1, DS.s_add2, DS.s_add3, DS.s_add4, DS.s_sub, DS.s_mul1, DS.s_mul2, DS.s_fdiv, DS.s_mod, DS.s_pow, DS.s_neg, DS.s_cmp1, DS.s_cmp2, DS.s_eq, DS.s_isN, DS.s_in1, DS.s_in2, DS.s_in3, DS.s_in4, DS.s_idx1, DS.s_idx2, DS.s_idx3, DS.s_idx4, DS.s_slc1, DS.s_slc2, DS.s_slc3, DS.s_slc4, DS.s_rev, DS.s_len1, DS.s_len2, DS.s_len3, DS.s_len4, DS.s_len5, DS.s_list1, DS.s_list2, DS.s_list3, DS.s_tuple1, DS.s_tuple2, DS.s_dict1, DS.s_dict2, DS.s_max2, DS.s_min2, DS.s_abs, DS.s_isi, DS.s_sum, DS.s_join, DS.s_upper, DS.s_items, DS.s_vals, DS.s_all, DS.s_str1, DS.s_str2, DS.s_str3, DS.s_int1, DS.s_int2, DS.s_get1, DS.s_get2, DS.s_dct0, DS.s_fz1, DS.s_fz2, DS.s_fz3, DS.s_bf1, DS.s_bf2, DS.s_bf3, DS.s_tr0, DS.s_tr1, DS.s_tr2, DS.s_tr3, DS.s_tr4, DS.s_tr5, DS.s_tr6, DS.s_av0, DS.s_av1, DS.s_av2, DS.s_ag0, DS.s_ag1, DS.s_ag2, DS.s_ty1, DS.s_ty2, DS.s_ty3, DS.s_ix0, DS.s_at0, DS.ex_cons, DS.s_dep1, DS.s_dep2, DS.s_dep3, DS.s_key1, DS.s_key2, DS.s_key3, DS.s_ot0, DS.ex_one, DS.s_ot1, DS.s_sq1, DS.s_sq2, DS.s_sq3, DS.s_sq4, DS.s_rg1, DS.s_rg2, DS.s_en, DS.s_it, DS.s_vl, List.map_cons, List.map_nil, List.cons_append, List.nil_append, List.length_cons, List.length_nil, List.replicate, Nat.add_one_sub_one, Nat.reduceAdd, Nat.reduceSub, List.append_nil, List.getElem?_cons_zero, List.getElem?_cons_succ, List.set_cons_zero, List.set_cons_succ, Option.map_some, Option.some.injEq, exists_eq_left', exists_eq', exists_eq_left, DS.O.pu.injEq, DS.O.fl.injEq, DS.O.fd.injEq, DS.wipeE, DS.backE, Option.getD_some, Option.getD_none, DS.D.bl.injEq, true_and, and_true, if_true, if_false, reduceCtorEq, Bool.false_eq_true, List.nodup_nil, List.nodup_cons, List.not_mem_nil, not_false_eq_true, exists_const, DS.s_at20, DS.s_at21, DS.s_at30, DS.s_at31, DS.s_at32, DS.s_revt, DS.p_non, DS.i_int_non, DS.i_bool_non, DS.i_str_non, DS.i_tuple_non, DS.i_list_non, DS.i_dict_non, DS.i_lt_non, DS.p_bl, DS.i_int_bl, DS.i_bool_bl, DS.i_str_bl, DS.i_tuple_bl, DS.i_list_bl, DS.i_dict_bl, DS.i_lt_bl, DS.p_int, DS.i_int_int, DS.i_bool_int, DS.i_str_int, DS.i_tuple_int, DS.i_list_int, DS.i_dict_int, DS.i_lt_int, DS.p_str, DS.i_int_str, DS.i_bool_str, DS.i_str_str, DS.i_tuple_str, DS.i_list_str, DS.i_dict_str, DS.i_lt_str, DS.p_lst, DS.i_int_lst, DS.i_bool_lst, DS.i_str_lst, DS.i_tuple_lst, DS.i_list_lst, DS.i_dict_lst, DS.i_lt_lst, DS.p_tup, DS.i_int_tup, DS.i_bool_tup, DS.i_str_tup, DS.i_tuple_tup, DS.i_list_tup, DS.i_dict_tup, DS.i_lt_tup, DS.p_dct, DS.i_int_dct, DS.i_bool_dct, DS.i_str_dct, DS.i_tuple_dct, DS.i_list_dct, DS.i_dict_dct, DS.i_lt_dct, DS.ite_tt, DS.ite_ff, Bool.not_true, Bool.not_false, true_and, h4]
    refine ⟨a, t, rfl, by omega, fun s hs => ⟨rfl, ?_⟩⟩
    simp only [DS.wSs, DS.wS, DS.wE, DS.wEs, DS.wAs, DS.wOI, DS.wCs, DS.asK, DS.tkD, DS.avIos, DS.putOs, DS.setAll, DS.opW, DS.bindT, DS.bindTs, DS.startE, DS.mTy, DS.ex_some, DS.ex_publ, DS.ex_int, DS.ex_int2, DS.ex_tup, DS.s_add1, DS.s_add2, DS.s_add3, DS.s_add4, DS.s_sub, DS.s_mul1, DS.s_mul2, DS.s_fdiv, DS.s_mod, DS.s_pow, DS.s_neg, DS.s_cmp1, DS.s_cmp2, DS.s_eq, DS.s_isN, DS.s_in1, DS.s_in2, DS.s_in3, DS.s_in4, DS.s_idx1, DS.s_idx2, DS.s_idx3, DS.s_idx4, DS.s_slc1, DS.s_slc2, DS.s_slc3, DS.s_slc4, DS.s_rev, DS.s_len1, DS.s_len2, DS.s_len3, DS.s_len4, DS.s_len5, DS.s_list1, DS.s_list2, DS.s_list3, DS.s_tuple1, DS.s_tuple2, DS.s_dict1, DS.s_dict2, DS.s_max2, DS.s_min2, DS.s_abs, DS.s_isi, DS.s_sum, DS.s_join, DS.s_upper, DS.s_items, DS.s_vals, DS.s_all, DS.s_str1, DS.s_str2, DS.s_str3, DS.s_int1, DS.s_int2, DS.s_get1, DS.s_get2, DS.s_dct0, DS.s_fz1, DS.s_fz2, DS.s_fz3, DS.s_bf1, DS.s_bf2, DS.s_bf3, DS.s_tr0, DS.s_tr1, DS.s_tr2, DS.s_tr3, DS.s_tr4, DS.s_tr5, DS.s_tr6, DS.s_av0, DS.s_av1, DS.s_av2, DS.s_ag0, DS.s_ag1, DS.s_ag2, DS.s_ty1, DS.s_ty2, DS.s_ty3, DS.s_ix0, DS.s_at0, DS.ex_cons, DS.s_dep1, DS.s_dep2, DS.s_dep3, DS.s_key1, DS.s_key2, DS.s_key3, DS.s_ot0, DS.ex_one, DS.s_ot1, DS.s_sq1, DS.s_sq2, DS.s_sq3, DS.s_sq4, DS.s_rg1, DS.s_rg2, DS.s_en, DS.s_it, DS.s_vl, List.map_cons, List.map_nil, List.cons_append, List.nil_append, List.length_cons, List.length_nil, List.replicate, Nat.add_one_sub_one, Nat.reduceAdd, Nat.reduceSub, List.append_nil, List.getElem?_cons_zero, List.getElem?_cons_succ, List.set_cons_zero, List.set_cons_succ, Option.map_some, Option.some.injEq, exists_eq_left', exists_eq', exists_eq_left, DS.O.pu.injEq, DS.O.fl.injEq, DS.O.fd.injEq, DS.wipeE, DS.backE, Option.getD_some, Option.getD_none, DS.D.bl.injEq, true_and, and_true, if_true, if_false, reduceCtorEq, Bool.false_eq_true, List.nodup_nil, List.nodup_cons, List.not_mem_nil, not_false_eq_true, exists_const, DS.s_at20, DS.s_at21, DS.s_at30, DS.s_at31, DS.s_at32, DS.s_revt, DS.p_non, DS.i_int_non, DS.i_bool_non, DS.i_str_non, DS.i_tuple_non, DS.i_list_non, DS.i_dict_non, DS.i_lt_non, DS.p_bl, DS.i_int_bl, DS.i_bool_bl, DS.i_str_bl, DS.i_tuple_bl, DS.i_list_bl, DS.i_dict_bl, DS.i_lt_bl, DS.p_int, DS.i_int_int, DS.i_bool_int, DS.i_str_int, DS.i_tuple_int, DS.i_list_int, DS.i_dict_int, DS.i_lt_int, DS.p_str, DS.i_int_str, DS.i_bool_str, DS.i_str_str, DS.i_tuple_str, DS.i_list_str, DS.i_dict_str, DS.i_lt_str, DS.p_lst, DS.i_int_lst, DS.i_bool_lst, DS.i_str_lst, DS.i_tuple_lst, DS.i_list_lst, DS.i_dict_lst, DS.i_lt_lst, DS.p_tup, DS.i_int_tup, DS.i_bool_tup, DS.i_str_tup, DS.i_tuple_tup, DS.i_list_tup, DS.i_dict_tup, DS.i_lt_tup, DS.p_dct, DS.i_int_dct, DS.i_bool_dct, DS.i_str_dct, DS.i_tuple_dct, DS.i_list_dct, DS.i_dict_dct, DS.i_lt_dct, DS.ite_tt, DS.ite_ff, Bool.not_true, Bool.not_false, true_and, h5]
    refine ⟨s, 0, 4, rfl, hs, by decide, by decide, by decide, fun k s1 k0 k1 hs1 => ⟨rfl, ?_⟩⟩
    simp only [DS.wSs, DS.wS, DS.wE, DS.wEs, DS.wAs, DS.wOI, DS.wCs, DS.asK, DS.tkD, DS.avIos, DS.putOs, DS.setAll, DS.opW, DS.bindT, DS.bindTs, DS.startE, DS.mTy, DS.ex_some, DS.ex_publ, DS.ex_int, DS.ex_int2, DS.ex_tup, DS.s_add1, DS.s_add2, DS.s_add3, DS.s_add4, DS.s_sub, DS.s_mul1, DS.s_mul2, DS.s_fdiv, DS.s_mod, DS.s_pow, DS.s_neg, DS.s_cmp1, DS.s_cmp2, DS.s_eq, DS.s_isN, DS.s_in1, DS.s_in2, DS.s_in3, DS.s_in4, DS.s_idx1, DS.s_idx2, DS.s_idx3, DS.s_idx4, DS.s_slc1, DS.s_slc2, DS.s_slc3, DS.s_slc4, DS.s_rev, DS.s_len1, DS.s_len2, DS.s_len3, DS.s_len4, DS.s_len5, DS.s_list1, DS.s_list2, DS.s_list3, DS.s_tuple1, DS.s_tuple2, DS.s_dict1, DS.s_dict2, DS.s_max2, DS.s_min2, DS.s_abs, DS.s_isi, DS.s_sum, DS.s_join, DS.s_upper, DS.s_items, DS.s_vals, DS.s_all, DS.s_str1, DS.s_str2, DS.s_str3, DS.s_int1, DS.s_int2, DS.s_get1, DS.s_get2, DS.s_dct0, DS.s_fz1, DS.s_fz2, DS.s_fz3, DS.s_bf1, DS.s_bf2, DS.s_bf3, DS.s_tr0, DS.s_tr1, DS.s_tr2, DS.s_tr3, DS.s_tr4, DS.s_tr5, DS.s_tr6, DS.s_av0, DS.s_av1, DS.s_av2, DS.s_ag0, DS.s_ag1, DS.s_ag2, DS.s_ty1, DS.s_ty2, DS.s_ty3, DS.s_ix0, DS.s_at0, DS.ex_cons, DS.s_dep1, DS.s_dep2, DS.s_dep3, DS.s_key1, DS.s_key2, DS.s_key3, DS.s_ot0, DS.ex_one, DS.s_ot1, DS.s_sq1, DS.s_sq2, DS.s_sq3, DS.s_sq4, DS.s_rg1, DS.s_rg2, DS.s_en, DS.s_it, DS.s_vl, List.map_cons, List.map_nil, List.cons_append, List.nil_append, List.length_cons, List.length_nil, List.replicate, Nat.add_one_sub_one, Nat.reduceAdd, Nat.reduceSub, List.append_nil, List.getElem?_cons_zero, List.getElem?_cons_succ, List.set_cons_zero, List.set_cons_succ, Option.map_some, Option.some.injEq, exists_eq_left', exists_eq', exists_eq_left, DS.O.pu.injEq, DS.O.fl.injEq, DS.O.fd.injEq, DS.wipeE, DS.backE, Option.getD_some, Option.getD_none, DS.D.bl.injEq, true_and, and_true, if_true, if_false, reduceCtorEq, Bool.false_eq_true, List.nodup_nil, List.nodup_cons, List.not_mem_nil, not_false_eq_true, exists_const, DS.s_at20, DS.s_at21, DS.s_at30, DS.s_at31, DS.s_at32, DS.s_revt, DS.p_non, DS.i_int_non, DS.i_bool_non, DS.i_str_non, DS.i_tuple_non, DS.i_list_non, DS.i_dict_non, DS.i_lt_non, DS.p_bl, DS.i_int_bl, DS.i_bool_bl, DS.i_str_bl, DS.i_tuple_bl, DS.i_list_bl, DS.i_dict_bl, DS.i_lt_bl, DS.p_int, DS.i_int_int, DS.i_bool_int, DS.i_str_int, DS.i_tuple_int, DS.i_list_int, DS.i_dict_int, DS.i_lt_int, DS.p_str, DS.i_int_str, DS.i_bool_str, DS.i_str_str, DS.i_tuple_str, DS.i_list_str, DS.i_dict_str, DS.i_lt_str, DS.p_lst, DS.i_int_lst, DS.i_bool_lst, DS.i_str_lst, DS.i_tuple_lst, DS.i_list_lst, DS.i_dict_lst, DS.i_lt_lst, DS.p_tup, DS.i_int_tup, DS.i_bool_tup, DS.i_str_tup, DS.i_tuple_tup, DS.i_list_tup, DS.i_dict_tup, DS.i_lt_tup, DS.p_dct, DS.i_int_dct, DS.i_bool_dct, DS.i_str_dct, DS.i_tuple_dct, DS.i_list_dct, DS.i_dict_dct, DS.i_lt_dct, DS.ite_tt, DS.ite_ff, Bool.not_true, Bool.not_false, true_and, h7]
    refine ⟨s1, 1, 1 + k, rfl, hs1, by decide, by omega, by omega, fun xs s2 xl xn xm hs2 => ⟨rfl, ?_⟩⟩
    simp only [DS.wSs, DS.wS, DS.wE, DS.wEs, DS.wAs, DS.wOI, DS.wCs, DS.asK, DS.tkD, DS.avIos, DS.putOs, DS.setAll, DS.opW, DS.bindT, DS.bindTs, DS.startE, DS.mTy, DS.ex_some, DS.ex_publ, DS.ex_int, DS.ex_int2, DS.ex_tup, DS.s_add1, DS.s_add2, DS.s_add3, DS.s_add4, DS.s_sub, DS.s_mul1, DS.s_mul2, DS.s_fdiv, DS.s_mod, DS.s_pow, DS.s_neg, DS.s_cmp1, DS.s_cmp2, DS.s_eq, DS.s_isN, DS.s_in1, DS.s_in2, DS.s_in3, DS.s_in4, DS.s_idx1, DS.s_idx2, DS.s_idx3, DS.s_idx4, DS.s_slc1, DS.s_slc2, DS.s_slc3, DS.s_slc4, DS.s_rev, DS.s_len1, DS.s_len2, DS.s_len3, DS.s_len4, DS.s_len5, DS.s_list1, DS.s_list2, DS.s_list3, DS.s_tuple1, DS.s_tuple2, DS.s_dict1, DS.s_dict2, DS.s_max2, DS.s_min2, DS.s_abs, DS.s_isi, DS.s_sum, DS.s_join, DS.s_upper, DS.s_items, DS.s_vals, DS.s_all, DS.s_str1, DS.s_str2, DS.s_str3, DS.s_int1, DS.s_int2, DS.s_get1, DS.s_get2, DS.s_dct0, DS.s_fz1, DS.s_fz2, DS.s_fz3, DS.s_bf1, DS.s_bf2, DS.s_bf3, DS.s_tr0, DS.s_tr1, DS.s_tr2, DS.s_tr3, DS.s_tr4, DS.s_tr5, DS.s_tr6, DS.s_av0, DS.s_av1, DS.s_av2, DS.s_ag0, DS.s_ag1, DS.s_ag2, DS.s_ty1, DS.s_ty2, DS.s_ty3, DS.s_ix0, DS.s_at0, DS.ex_cons, DS.s_dep1, DS.s_dep2, DS.s_dep3, DS.s_key1, DS.s_key2, DS.s_key3, DS.s_ot0, DS.ex_one, DS.s_ot1, DS.s_sq1, DS.s_sq2, DS.s_sq3, DS.s_sq4, DS.s_rg1, DS.s_rg2, DS.s_en, DS.s_it, DS.s_vl, List.map_cons, List.map_nil, List.cons_append, List.nil_append, List.length_cons, List.length_nil, List.replicate, Nat.add_one_sub_one, Nat.reduceAdd, Nat.reduceSub, List.append_nil, List.getElem?_cons_zero, List.getElem?_cons_succ, List.set_cons_zero, List.set_cons_succ, Option.map_some, Option.some.injEq, exists_eq_left', exists_eq', exists_eq_left, DS.O.pu.injEq, DS.O.fl.injEq, DS.O.fd.injEq, DS.wipeE, DS.backE, Option.getD_some, Option.getD_none, DS.D.bl.injEq, true_and, and_true, if_true, if_false, reduceCtorEq, Bool.false_eq_true, List.nodup_nil, List.nodup_cons, List.not_mem_nil, not_false_eq_true, exists_const, DS.s_at20, DS.s_at21, DS.s_at30, DS.s_at31, DS.s_at32, DS.s_revt, DS.p_non, DS.i_int_non, DS.i_bool_non, DS.i_str_non, DS.i_tuple_non, DS.i_list_non, DS.i_dict_non, DS.i_lt_non, DS.p_bl, DS.i_int_bl, DS.i_bool_bl, DS.i_str_bl, DS.i_tuple_bl, DS.i_list_bl, DS.i_dict_bl, DS.i_lt_bl, DS.p_int, DS.i_int_int, DS.i_bool_int, DS.i_str_int, DS.i_tuple_int, DS.i_list_int, DS.i_dict_int, DS.i_lt_int, DS.p_str, DS.i_int_str, DS.i_bool_str, DS.i_str_str, DS.i_tuple_str, DS.i_list_str, DS.i_dict_str, DS.i_lt_str, DS.p_lst, DS.i_int_lst, DS.i_bool_lst, DS.i_str_lst, DS.i_tuple_lst, DS.i_list_lst, DS.i_dict_lst, DS.i_lt_lst, DS.p_tup, DS.i_int_tup, DS.i_bool_tup, DS.i_str_tup, DS.i_tuple_tup, DS.i_list_tup, DS.i_dict_tup, DS.i_lt_tup, DS.p_dct, DS.i_int_dct, DS.i_bool_dct, DS.i_str_dct, DS.i_tuple_dct, DS.i_list_dct, DS.i_dict_dct, DS.i_lt_dct, DS.ite_tt, DS.ite_ff, Bool.not_true, Bool.not_false, true_and, h8]
    have xl' : xs.length ≤ 4 := by omega
    have xp : 0 < xs.length := by omega
    have xne : xs ≠ [] := List.length_pos_iff.1 xp
    refine ⟨s2, _, xs, rfl, by omega, hs2, by decide, fun vs s3 vn vx vl vb hs3 => ⟨rfl, ?_⟩⟩
    simp only [DS.wSs, DS.wS, DS.wE, DS.wEs, DS.wAs, DS.wOI, DS.wCs, DS.asK, DS.tkD, DS.avIos, DS.putOs, DS.setAll, DS.opW, DS.bindT, DS.bindTs, DS.startE, DS.mTy, DS.ex_some, DS.ex_publ, DS.ex_int, DS.ex_int2, DS.ex_tup, DS.s_add1, DS.s_add2, DS.s_add3, DS.s_add4, DS.s_sub, DS.s_mul1, DS.s_mul2, DS.s_fdiv, DS.s_mod, DS.s_pow, DS.s_neg, DS.s_cmp1, DS.s_cmp2, DS.s_eq, DS.s_isN, DS.s_in1, DS.s_in2, DS.s_in3, DS.s_in4, DS.s_idx1, DS.s_idx2, DS.s_idx3, DS.s_idx4, DS.s_slc1, DS.s_slc2, DS.s_slc3, DS.s_slc4, DS.s_rev, DS.s_len1, DS.s_len2, DS.s_len3, DS.s_len4, DS.s_len5, DS.s_list1, DS.s_list2, DS.s_list3, DS.s_tuple1, DS.s_tuple2, DS.s_dict1, DS.s_dict2, DS.s_max2, DS.s_min2, DS.s_abs, DS.s_isi, DS.s_sum, DS.s_join, DS.s_upper, DS.s_items, DS.s_vals, DS.s_all, DS.s_str1, DS.s_str2, DS.s_str3, DS.s_int1, DS.s_int2, DS.s_get1, DS.s_get2, DS.s_dct0, DS.s_fz1, DS.s_fz2, DS.s_fz3, DS.s_bf1, DS.s_bf2, DS.s_bf3, DS.s_tr0, DS.s_tr1, DS.s_tr2, DS.s_tr3, DS.s_tr4, DS.s_tr5, DS.s_tr6, DS.s_av0, DS.s_av1, DS.s_av2, DS.s_ag0, DS.s_ag1, DS.s_ag2, DS.s_ty1, DS.s_ty2, DS.s_ty3, DS.s_ix0, DS.s_at0, DS.ex_cons, DS.s_dep1, DS.s_dep2, DS.s_dep3, DS.s_key1, DS.s_key2, DS.s_key3, DS.s_ot0, DS.ex_one, DS.s_ot1, DS.s_sq1, DS.s_sq2, DS.s_sq3, DS.s_sq4, DS.s_rg1, DS.s_rg2, DS.s_en, DS.s_it, DS.s_vl, List.map_cons, List.map_nil, List.cons_append, List.nil_append, List.length_cons, List.length_nil, List.replicate, Nat.add_one_sub_one, Nat.reduceAdd, Nat.reduceSub, List.append_nil, List.getElem?_cons_zero, List.getElem?_cons_succ, List.set_cons_zero, List.set_cons_succ, Option.map_some, Option.some.injEq, exists_eq_left', exists_eq', exists_eq_left, DS.O.pu.injEq, DS.O.fl.injEq, DS.O.fd.injEq, DS.wipeE, DS.backE, Option.getD_some, Option.getD_none, DS.D.bl.injEq, true_and, and_true, if_true, if_false, reduceCtorEq, Bool.false_eq_true, List.nodup_nil, List.nodup_cons, List.not_mem_nil, not_false_eq_true, exists_const, DS.s_at20, DS.s_at21, DS.s_at30, DS.s_at31, DS.s_at32, DS.s_revt, DS.p_non, DS.i_int_non, DS.i_bool_non, DS.i_str_non, DS.i_tuple_non, DS.i_list_non, DS.i_dict_non, DS.i_lt_non, DS.p_bl, DS.i_int_bl, DS.i_bool_bl, DS.i_str_bl, DS.i_tuple_bl, DS.i_list_bl, DS.i_dict_bl, DS.i_lt_bl, DS.p_int, DS.i_int_int, DS.i_bool_int, DS.i_str_int, DS.i_tuple_int, DS.i_list_int, DS.i_dict_int, DS.i_lt_int, DS.p_str, DS.i_int_str, DS.i_bool_str, DS.i_str_str, DS.i_tuple_str, DS.i_list_str, DS.i_dict_str, DS.i_lt_str, DS.p_lst, DS.i_int_lst, DS.i_bool_lst, DS.i_str_lst, DS.i_tuple_lst, DS.i_list_lst, DS.i_dict_lst, DS.i_lt_lst, DS.p_tup, DS.i_int_tup, DS.i_bool_tup, DS.i_str_tup, DS.i_tuple_tup, DS.i_list_tup, DS.i_dict_tup, DS.i_lt_tup, DS.p_dct, DS.i_int_dct, DS.i_bool_dct, DS.i_str_dct, DS.i_tuple_dct, DS.i_list_dct, DS.i_dict_dct, DS.i_lt_dct, DS.ite_tt, DS.ite_ff, Bool.not_true, Bool.not_false, true_and, h10]
    refine ⟨s3, _, xs, vs, rfl, xne, by omega, vx, vb, hs3, by decide, fun f o b s4 hf ho hfo b0 b1 _ hs4 => ⟨rfl, ?_⟩⟩
    simp only [DS.wSs, DS.wS, DS.wE, DS.wEs, DS.wAs, DS.wOI, DS.wCs, DS.asK, DS.tkD, DS.avIos, DS.putOs, DS.setAll, DS.opW, DS.bindT, DS.bindTs, DS.startE, DS.mTy, DS.ex_some, DS.ex_publ, DS.ex_int, DS.ex_int2, DS.ex_tup, DS.s_add1, DS.s_add2, DS.s_add3, DS.s_add4, DS.s_sub, DS.s_mul1, DS.s_mul2, DS.s_fdiv, DS.s_mod, DS.s_pow, DS.s_neg, DS.s_cmp1, DS.s_cmp2, DS.s_eq, DS.s_isN, DS.s_in1, DS.s_in2, DS.s_in3, DS.s_in4, DS.s_idx1, DS.s_idx2, DS.s_idx3, DS.s_idx4, DS.s_slc1, DS.s_slc2, DS.s_slc3, DS.s_slc4, DS.s_rev, DS.s_len1, DS.s_len2, DS.s_len3, DS.s_len4, DS.s_len5, DS.s_list1, DS.s_list2, DS.s_list3, DS.s_tuple1, DS.s_tuple2, DS.s_dict1, DS.s_dict2, DS.s_max2, DS.s_min2, DS.s_abs, DS.s_isi, DS.s_sum, DS.s_join, DS.s_upper, DS.s_items, DS.s_vals, DS.s_all, DS.s_str1, DS.s_str2, DS.s_str3, DS.s_int1, DS.s_int2, DS.s_get1, DS.s_get2, DS.s_dct0, DS.s_fz1, DS.s_fz2, DS.s_fz3, DS.s_bf1, DS.s_bf2, DS.s_bf3, DS.s_tr0, DS.s_tr1, DS.s_tr2, DS.s_tr3, DS.s_tr4, DS.s_tr5, DS.s_tr6, DS.s_av0, DS.s_av1, DS.s_av2, DS.s_ag0, DS.s_ag1, DS.s_ag2, DS.s_ty1, DS.s_ty2, DS.s_ty3, DS.s_ix0, DS.s_at0, DS.ex_cons, DS.s_dep1, DS.s_dep2, DS.s_dep3, DS.s_key1, DS.s_key2, DS.s_key3, DS.s_ot0, DS.ex_one, DS.s_ot1, DS.s_sq1, DS.s_sq2, DS.s_sq3, DS.s_sq4, DS.s_rg1, DS.s_rg2, DS.s_en, DS.s_it, DS.s_vl, List.map_cons, List.map_nil, List.cons_append, List.nil_append, List.length_cons, List.length_nil, List.replicate, Nat.add_one_sub_one, Nat.reduceAdd, Nat.reduceSub, List.append_nil, List.getElem?_cons_zero, List.getElem?_cons_succ, List.set_cons_zero, List.set_cons_succ, Option.map_some, Option.some.injEq, exists_eq_left', exists_eq', exists_eq_left, DS.O.pu.injEq, DS.O.fl.injEq, DS.O.fd.injEq, DS.wipeE, DS.backE, Option.getD_some, Option.getD_none, DS.D.bl.injEq, true_and, and_true, if_true, if_false, reduceCtorEq, Bool.false_eq_true, List.nodup_nil, List.nodup_cons, List.not_mem_nil, not_false_eq_true, exists_const, DS.s_at20, DS.s_at21, DS.s_at30, DS.s_at31, DS.s_at32, DS.s_revt, DS.p_non, DS.i_int_non, DS.i_bool_non, DS.i_str_non, DS.i_tuple_non, DS.i_list_non, DS.i_dict_non, DS.i_lt_non, DS.p_bl, DS.i_int_bl, DS.i_bool_bl, DS.i_str_bl, DS.i_tuple_bl, DS.i_list_bl, DS.i_dict_bl, DS.i_lt_bl, DS.p_int, DS.i_int_int, DS.i_bool_int, DS.i_str_int, DS.i_tuple_int, DS.i_list_int, DS.i_dict_int, DS.i_lt_int, DS.p_str, DS.i_int_str, DS.i_bool_str, DS.i_str_str, DS.i_tuple_str, DS.i_list_str, DS.i_dict_str, DS.i_lt_str, DS.p_lst, DS.i_int_lst, DS.i_bool_lst, DS.i_str_lst, DS.i_tuple_lst, DS.i_list_lst, DS.i_dict_lst, DS.i_lt_lst, DS.p_tup, DS.i_int_tup, DS.i_bool_tup, DS.i_str_tup, DS.i_tuple_tup, DS.i_list_tup, DS.i_dict_tup, DS.i_lt_tup, DS.p_dct, DS.i_int_dct, DS.i_bool_dct, DS.i_str_dct, DS.i_tuple_dct, DS.i_list_dct, DS.i_dict_dct, DS.i_lt_dct, DS.ite_tt, DS.ite_ff, Bool.not_true, Bool.not_false, true_and]
    unfold b3
    simp only [DS.wSs, DS.wS, DS.wE, DS.wEs, DS.wAs, DS.wOI, DS.wCs, DS.asK, DS.tkD, DS.avIos, DS.putOs, DS.setAll, DS.opW, DS.bindT, DS.bindTs, DS.startE, DS.mTy, DS.ex_some, DS.ex_publ, DS.ex_int, DS.ex_int2, DS.ex_tup, DS.s_add1, DS.s_add2, DS.s_add3, DS.s_add4, DS.s_sub, DS.s_mul1, DS.s_mul2, DS.s_fdiv, DS.s_mod, DS.s_pow, DS.s_neg, DS.s_cmp1, DS.s_cmp2, DS.s_eq, DS.s_isN, DS.s_in1, DS.s_in2, DS.s_in3, DS.s_in4, DS.s_idx1, DS.s_idx2, DS.s_idx3, DS.s_idx4, DS.s_slc1, DS.s_slc2, DS.s_slc3, DS.s_slc4, DS.s_rev, DS.s_len1, DS.s_len2, DS.s_len3, DS.s_len4, DS.s_len5, DS.s_list1, DS.s_list2, DS.s_list3, DS.s_tuple1, DS.s_tuple2, DS.s_dict1, DS.s_dict2, DS.s_max2, DS.s_min2, DS.s_abs, DS.s_isi, DS.s_sum, DS.s_join, DS.s_upper, DS.s_items, DS.s_vals, DS.s_all, DS.s_str1, DS.s_str2, DS.s_str3, DS.s_int1, DS.s_int2, DS.s_get1, DS.s_get2, DS.s_dct0, DS.s_fz1, DS.s_fz2, DS.s_fz3, DS.s_bf1, DS.s_bf2, DS.s_bf3, DS.s_tr0, DS.s_tr1, DS.s_tr2, DS.s_tr3, DS.s_tr4, DS.s_tr5, DS.s_tr6, DS.s_av0, DS.s_av1, DS.s_av2, DS.s_ag0, DS.s_ag1, DS.s_ag2, DS.s_ty1, DS.s_ty2, DS.s_ty3, DS.s_ix0, DS.s_at0, DS.ex_cons, DS.s_dep1, DS.s_dep2, DS.s_dep3, DS.s_key1, DS.s_key2, DS.s_key3, DS.s_ot0, DS.ex_one, DS.s_ot1, DS.s_sq1, DS.s_sq2, DS.s_sq3, DS.s_sq4, DS.s_rg1, DS.s_rg2, DS.s_en, DS.s_it, DS.s_vl, List.map_cons, List.map_nil, List.cons_append, List.nil_append, List.length_cons, List.length_nil, List.replicate, Nat.add_one_sub_one, Nat.reduceAdd, Nat.reduceSub, List.append_nil, List.getElem?_cons_zero, List.getElem?_cons_succ, List.set_cons_zero, List.set_cons_succ, Option.map_some, Option.some.injEq, exists_eq_left', exists_eq', exists_eq_left, DS.O.pu.injEq, DS.O.fl.injEq, DS.O.fd.injEq, DS.wipeE, DS.backE, Option.getD_some, Option.getD_none, DS.D.bl.injEq, true_and, and_true, if_true, if_false, reduceCtorEq, Bool.false_eq_true, List.nodup_nil, List.nodup_cons, List.not_mem_nil, not_false_eq_true, exists_const, DS.s_at20, DS.s_at21, DS.s_at30, DS.s_at31, DS.s_at32, DS.s_revt, DS.p_non, DS.i_int_non, DS.i_bool_non, DS.i_str_non, DS.i_tuple_non, DS.i_list_non, DS.i_dict_non, DS.i_lt_non, DS.p_bl, DS.i_int_bl, DS.i_bool_bl, DS.i_str_bl, DS.i_tuple_bl, DS.i_list_bl, DS.i_dict_bl, DS.i_lt_bl, DS.p_int, DS.i_int_int, DS.i_bool_int, DS.i_str_int, DS.i_tuple_int, DS.i_list_int, DS.i_dict_int, DS.i_lt_int, DS.p_str, DS.i_int_str, DS.i_bool_str, DS.i_str_str, DS.i_tuple_str, DS.i_list_str, DS.i_dict_str, DS.i_lt_str, DS.p_lst, DS.i_int_lst, DS.i_bool_lst, DS.i_str_lst, DS.i_tuple_lst, DS.i_list_lst, DS.i_dict_lst, DS.i_lt_lst, DS.p_tup, DS.i_int_tup, DS.i_bool_tup, DS.i_str_tup, DS.i_tuple_tup, DS.i_list_tup, DS.i_dict_tup, DS.i_lt_tup, DS.p_dct, DS.i_int_dct, DS.i_bool_dct, DS.i_str_dct, DS.i_tuple_dct, DS.i_list_dct, DS.i_dict_dct, DS.i_lt_dct, DS.ite_tt, DS.ite_ff, Bool.not_true, Bool.not_false, true_and, h6]
    refine pick_all (fun d => ∃ z, d = .str z ∧ IsNm z) (by simpa using xp) (by simp; omega) ?_ hs4 (by decide) ?_
    · intro y hy
      obtain ⟨z, hz, rfl⟩ := List.mem_map.1 hy
      exact ⟨z, rfl, xm z hz⟩
    rintro _ s5 ⟨z, rfl, hzn⟩ hs5
    refine ⟨rfl, ?_⟩
    simp only [DS.wSs, DS.wS, DS.wE, DS.wEs, DS.wAs, DS.wOI, DS.wCs, DS.asK, DS.tkD, DS.avIos, DS.putOs, DS.setAll, DS.opW, DS.bindT, DS.bindTs, DS.startE, DS.mTy, DS.ex_some, DS.ex_publ, DS.ex_int, DS.ex_int2, DS.ex_tup, DS.s_add1, DS.s_add2, DS.s_add3, DS.s_add4, DS.s_sub, DS.s_mul1, DS.s_mul2, DS.s_fdiv, DS.s_mod, DS.s_pow, DS.s_neg, DS.s_cmp1, DS.s_cmp2, DS.s_eq, DS.s_isN, DS.s_in1, DS.s_in2, DS.s_in3, DS.s_in4, DS.s_idx1, DS.s_idx2, DS.s_idx3, DS.s_idx4, DS.s_slc1, DS.s_slc2, DS.s_slc3, DS.s_slc4, DS.s_rev, DS.s_len1, DS.s_len2, DS.s_len3, DS.s_len4, DS.s_len5, DS.s_list1, DS.s_list2, DS.s_list3, DS.s_tuple1, DS.s_tuple2, DS.s_dict1, DS.s_dict2, DS.s_max2, DS.s_min2, DS.s_abs, DS.s_isi, DS.s_sum, DS.s_join, DS.s_upper, DS.s_items, DS.s_vals, DS.s_all, DS.s_str1, DS.s_str2, DS.s_str3, DS.s_int1, DS.s_int2, DS.s_get1, DS.s_get2, DS.s_dct0, DS.s_fz1, DS.s_fz2, DS.s_fz3, DS.s_bf1, DS.s_bf2, DS.s_bf3, DS.s_tr0, DS.s_tr1, DS.s_tr2, DS.s_tr3, DS.s_tr4, DS.s_tr5, DS.s_tr6, DS.s_av0, DS.s_av1, DS.s_av2, DS.s_ag0, DS.s_ag1, DS.s_ag2, DS.s_ty1, DS.s_ty2, DS.s_ty3, DS.s_ix0, DS.s_at0, DS.ex_cons, DS.s_dep1, DS.s_dep2, DS.s_dep3, DS.s_key1, DS.s_key2, DS.s_key3, DS.s_ot0, DS.ex_one, DS.s_ot1, DS.s_sq1, DS.s_sq2, DS.s_sq3, DS.s_sq4, DS.s_rg1, DS.s_rg2, DS.s_en, DS.s_it, DS.s_vl, List.map_cons, List.map_nil, List.cons_append, List.nil_append, List.length_cons, List.length_nil, List.replicate, Nat.add_one_sub_one, Nat.reduceAdd, Nat.reduceSub, List.append_nil, List.getElem?_cons_zero, List.getElem?_cons_succ, List.set_cons_zero, List.set_cons_succ, Option.map_some, Option.some.injEq, exists_eq_left', exists_eq', exists_eq_left, DS.O.pu.injEq, DS.O.fl.injEq, DS.O.fd.injEq, DS.wipeE, DS.backE, Option.getD_some, Option.getD_none, DS.D.bl.injEq, true_and, and_true, if_true, if_false, reduceCtorEq, Bool.false_eq_true, List.nodup_nil, List.nodup_cons, List.not_mem_nil, not_false_eq_true, exists_const, DS.s_at20, DS.s_at21, DS.s_at30, DS.s_at31, DS.s_at32, DS.s_revt, DS.p_non, DS.i_int_non, DS.i_bool_non, DS.i_str_non, DS.i_tuple_non, DS.i_list_non, DS.i_dict_non, DS.i_lt_non, DS.p_bl, DS.i_int_bl, DS.i_bool_bl, DS.i_str_bl, DS.i_tuple_bl, DS.i_list_bl, DS.i_dict_bl, DS.i_lt_bl, DS.p_int, DS.i_int_int, DS.i_bool_int, DS.i_str_int, DS.i_tuple_int, DS.i_list_int, DS.i_dict_int, DS.i_lt_int, DS.p_str, DS.i_int_str, DS.i_bool_str, DS.i_str_str, DS.i_tuple_str, DS.i_list_str, DS.i_dict_str, DS.i_lt_str, DS.p_lst, DS.i_int_lst, DS.i_bool_lst, DS.i_str_lst, DS.i_tuple_lst, DS.i_list_lst, DS.i_dict_lst, DS.i_lt_lst, DS.p_tup, DS.i_int_tup, DS.i_bool_tup, DS.i_str_tup, DS.i_tuple_tup, DS.i_list_tup, DS.i_dict_tup, DS.i_lt_tup, DS.p_dct, DS.i_int_dct, DS.i_bool_dct, DS.i_str_dct, DS.i_tuple_dct, DS.i_list_dct, DS.i_dict_dct, DS.i_lt_dct, DS.ite_tt, DS.ite_ff, Bool.not_true, Bool.not_false, true_and]
    refine ⟨by omega, ?_⟩
    have tT : ∀ t : Option Str, TermOf xs t → Th 0 0 (tD t) := by
      intro t ht
      cases t with
      | none => exact trivial
      | some z =>
        have := (xm z (ht z rfl)).2.1
        show z.length ≤ 30 * 4 ^ 0
        omega
    have tb : Th 0 0 (.int b) := by show b.natAbs ≤ 10 ^ 9 + 0; omega
    have c2 : cutL [tD f, tD o, D.int b] none (some 2) = [tD f, tD o] := by rw [cut_to (by decide)]; rfl
    rw [c2]
    refine loopW_of (fun items e => (∀ d ∈ items, Th 0 1 d) ∧ ∃ (s' : List D) (m : Nat) (x3 x4 : Option O), e = [x0, some (.pu (.int t)), some (.pu (.int a)), some (.fl s'), some (.pu (.lst (xs.map .str))), some (.pu (.tup [tD f, tD o, .int b])), x3, x4] ∧ Stt m s' ∧ m + 1000 * items.length ≤ 100000) ?_ ?_ _ _ ?_
    · rintro e ⟨_, s', m, x3, x4, rfl, _⟩
      exact hL _ rfl
    · rintro d ds e L' ⟨hit, s', m, x3, x4, rfl, hm, hml⟩ hL'
      simp only [DS.wSs, DS.wS, DS.wE, DS.wEs, DS.wAs, DS.wOI, DS.wCs, DS.asK, DS.tkD, DS.avIos, DS.putOs, DS.setAll, DS.opW, DS.bindT, DS.bindTs, DS.startE, DS.mTy, DS.ex_some, DS.ex_publ, DS.ex_int, DS.ex_int2, DS.ex_tup, DS.s_add1, DS.s_add2, DS.s_add3, DS.s_add4, DS.s_sub, DS.s_mul1, DS.s_mul2, DS.s_fdiv, DS.s_mod, DS.s_pow, DS.s_neg, DS.s_cmp1, DS.s_cmp2, DS.s_eq, DS.s_isN, DS.s_in1, DS.s_in2, DS.s_in3, DS.s_in4, DS.s_idx1, DS.s_idx2, DS.s_idx3, DS.s_idx4, DS.s_slc1, DS.s_slc2, DS.s_slc3, DS.s_slc4, DS.s_rev, DS.s_len1, DS.s_len2, DS.s_len3, DS.s_len4, DS.s_len5, DS.s_list1, DS.s_list2, DS.s_list3, DS.s_tuple1, DS.s_tuple2, DS.s_dict1, DS.s_dict2, DS.s_max2, DS.s_min2, DS.s_abs, DS.s_isi, DS.s_sum, DS.s_join, DS.s_upper, DS.s_items, DS.s_vals, DS.s_all, DS.s_str1, DS.s_str2, DS.s_str3, DS.s_int1, DS.s_int2, DS.s_get1, DS.s_get2, DS.s_dct0, DS.s_fz1, DS.s_fz2, DS.s_fz3, DS.s_bf1, DS.s_bf2, DS.s_bf3, DS.s_tr0, DS.s_tr1, DS.s_tr2, DS.s_tr3, DS.s_tr4, DS.s_tr5, DS.s_tr6, DS.s_av0, DS.s_av1, DS.s_av2, DS.s_ag0, DS.s_ag1, DS.s_ag2, DS.s_ty1, DS.s_ty2, DS.s_ty3, DS.s_ix0, DS.s_at0, DS.ex_cons, DS.s_dep1, DS.s_dep2, DS.s_dep3, DS.s_key1, DS.s_key2, DS.s_key3, DS.s_ot0, DS.ex_one, DS.s_ot1, DS.s_sq1, DS.s_sq2, DS.s_sq3, DS.s_sq4, DS.s_rg1, DS.s_rg2, DS.s_en, DS.s_it, DS.s_vl, List.map_cons, List.map_nil, List.cons_append, List.nil_append, List.length_cons, List.length_nil, List.replicate, Nat.add_one_sub_one, Nat.reduceAdd, Nat.reduceSub, List.append_nil, List.getElem?_cons_zero, List.getElem?_cons_succ, List.set_cons_zero, List.set_cons_succ, Option.map_some, Option.some.injEq, exists_eq_left', exists_eq', exists_eq_left, DS.O.pu.injEq, DS.O.fl.injEq, DS.O.fd.injEq, DS.wipeE, DS.backE, Option.getD_some, Option.getD_none, DS.D.bl.injEq, true_and, and_true, if_true, if_false, reduceCtorEq, Bool.false_eq_true, List.nodup_nil, List.nodup_cons, List.not_mem_nil, not_false_eq_true, exists_const, DS.s_at20, DS.s_at21, DS.s_at30, DS.s_at31, DS.s_at32, DS.s_revt, DS.p_non, DS.i_int_non, DS.i_bool_non, DS.i_str_non, DS.i_tuple_non, DS.i_list_non, DS.i_dict_non, DS.i_lt_non, DS.p_bl, DS.i_int_bl, DS.i_bool_bl, DS.i_str_bl, DS.i_tuple_bl, DS.i_list_bl, DS.i_dict_bl, DS.i_lt_bl, DS.p_int, DS.i_int_int, DS.i_bool_int, DS.i_str_int, DS.i_tuple_int, DS.i_list_int, DS.i_dict_int, DS.i_lt_int, DS.p_str, DS.i_int_str, DS.i_bool_str, DS.i_str_str, DS.i_tuple_str, DS.i_list_str, DS.i_dict_str, DS.i_lt_str, DS.p_lst, DS.i_int_lst, DS.i_bool_lst, DS.i_str_lst, DS.i_tuple_lst, DS.i_list_lst, DS.i_dict_lst, DS.i_lt_lst, DS.p_tup, DS.i_int_tup, DS.i_bool_tup, DS.i_str_tup, DS.i_tuple_tup, DS.i_list_tup, DS.i_dict_tup, DS.i_lt_tup, DS.p_dct, DS.i_int_dct, DS.i_bool_dct, DS.i_str_dct, DS.i_tuple_dct, DS.i_list_dct, DS.i_dict_dct, DS.i_lt_dct, DS.ite_tt, DS.ite_ff, Bool.not_true, Bool.not_false, true_and, h5]
      simp only [List.length_cons] at hml
      refine ⟨s', m, 4, rfl, hm, by omega, by omega, by omega, fun q s6 q0 q1 h6' => ⟨rfl, ?_⟩⟩
      simp only [DS.wSs, DS.wS, DS.wE, DS.wEs, DS.wAs, DS.wOI, DS.wCs, DS.asK, DS.tkD, DS.avIos, DS.putOs, DS.setAll, DS.opW, DS.bindT, DS.bindTs, DS.startE, DS.mTy, DS.ex_some, DS.ex_publ, DS.ex_int, DS.ex_int2, DS.ex_tup, DS.s_add1, DS.s_add2, DS.s_add3, DS.s_add4, DS.s_sub, DS.s_mul1, DS.s_mul2, DS.s_fdiv, DS.s_mod, DS.s_pow, DS.s_neg, DS.s_cmp1, DS.s_cmp2, DS.s_eq, DS.s_isN, DS.s_in1, DS.s_in2, DS.s_in3, DS.s_in4, DS.s_idx1, DS.s_idx2, DS.s_idx3, DS.s_idx4, DS.s_slc1, DS.s_slc2, DS.s_slc3, DS.s_slc4, DS.s_rev, DS.s_len1, DS.s_len2, DS.s_len3, DS.s_len4, DS.s_len5, DS.s_list1, DS.s_list2, DS.s_list3, DS.s_tuple1, DS.s_tuple2, DS.s_dict1, DS.s_dict2, DS.s_max2, DS.s_min2, DS.s_abs, DS.s_isi, DS.s_sum, DS.s_join, DS.s_upper, DS.s_items, DS.s_vals, DS.s_all, DS.s_str1, DS.s_str2, DS.s_str3, DS.s_int1, DS.s_int2, DS.s_get1, DS.s_get2, DS.s_dct0, DS.s_fz1, DS.s_fz2, DS.s_fz3, DS.s_bf1, DS.s_bf2, DS.s_bf3, DS.s_tr0, DS.s_tr1, DS.s_tr2, DS.s_tr3, DS.s_tr4, DS.s_tr5, DS.s_tr6, DS.s_av0, DS.s_av1, DS.s_av2, DS.s_ag0, DS.s_ag1, DS.s_ag2, DS.s_ty1, DS.s_ty2, DS.s_ty3, DS.s_ix0, DS.s_at0, DS.ex_cons, DS.s_dep1, DS.s_dep2, DS.s_dep3, DS.s_key1, DS.s_key2, DS.s_key3, DS.s_ot0, DS.ex_one, DS.s_ot1, DS.s_sq1, DS.s_sq2, DS.s_sq3, DS.s_sq4, DS.s_rg1, DS.s_rg2, DS.s_en, DS.s_it, DS.s_vl, List.map_cons, List.map_nil, List.cons_append, List.nil_append, List.length_cons, List.length_nil, List.replicate, Nat.add_one_sub_one, Nat.reduceAdd, Nat.reduceSub, List.append_nil, List.getElem?_cons_zero, List.getElem?_cons_succ, List.set_cons_zero, List.set_cons_succ, Option.map_some, Option.some.injEq, exists_eq_left', exists_eq', exists_eq_left, DS.O.pu.injEq, DS.O.fl.injEq, DS.O.fd.injEq, DS.wipeE, DS.backE, Option.getD_some, Option.getD_none, DS.D.bl.injEq, true_and, and_true, if_true, if_false, reduceCtorEq, Bool.false_eq_true, List.nodup_nil, List.nodup_cons, List.not_mem_nil, not_false_eq_true, exists_const, DS.s_at20, DS.s_at21, DS.s_at30, DS.s_at31, DS.s_at32, DS.s_revt, DS.p_non, DS.i_int_non, DS.i_bool_non, DS.i_str_non, DS.i_tuple_non, DS.i_list_non, DS.i_dict_non, DS.i_lt_non, DS.p_bl, DS.i_int_bl, DS.i_bool_bl, DS.i_str_bl, DS.i_tuple_bl, DS.i_list_bl, DS.i_dict_bl, DS.i_lt_bl, DS.p_int, DS.i_int_int, DS.i_bool_int, DS.i_str_int, DS.i_tuple_int, DS.i_list_int, DS.i_dict_int, DS.i_lt_int, DS.p_str, DS.i_int_str, DS.i_bool_str, DS.i_str_str, DS.i_tuple_str, DS.i_list_str, DS.i_dict_str, DS.i_lt_str, DS.p_lst, DS.i_int_lst, DS.i_bool_lst, DS.i_str_lst, DS.i_tuple_lst, DS.i_list_lst, DS.i_dict_lst, DS.i_lt_lst, DS.p_tup, DS.i_int_tup, DS.i_bool_tup, DS.i_str_tup, DS.i_tuple_tup, DS.i_list_tup, DS.i_dict_tup, DS.i_lt_tup, DS.p_dct, DS.i_int_dct, DS.i_bool_dct, DS.i_str_dct, DS.i_tuple_dct, DS.i_list_dct, DS.i_dict_dct, DS.i_lt_dct, DS.ite_tt, DS.ite_ff, Bool.not_true, Bool.not_false, true_and]
      refine ⟨by omega, ?_⟩
      refine loopW_of (fun items e => ∃ (d' : D) (mm : Nat) (s' : List D) (x7 : Option O), e = [x0, some (.pu (.int t)), some (.pu (.int a)), some (.fl s'), some (.pu (.lst (xs.map .str))), some (.pu (.tup [tD f, tD o, .int b])), some (.pu d'), x7] ∧ Th mm (mm + 1) d' ∧ mm + items.length ≤ 3 ∧ Stt (m + 1 + 50 * mm) s') ?_ ?_ _ _ ?_
      · rintro e ⟨d', mm, s', x7, rfl, hd', hmm, hs'⟩
        simp only [List.length_nil] at hmm
        simp only [DS.wSs, DS.wS, DS.wE, DS.wEs, DS.wAs, DS.wOI, DS.wCs, DS.asK, DS.tkD, DS.avIos, DS.putOs, DS.setAll, DS.opW, DS.bindT, DS.bindTs, DS.startE, DS.mTy, DS.ex_some, DS.ex_publ, DS.ex_int, DS.ex_int2, DS.ex_tup, DS.s_add1, DS.s_add2, DS.s_add3, DS.s_add4, DS.s_sub, DS.s_mul1, DS.s_mul2, DS.s_fdiv, DS.s_mod, DS.s_pow, DS.s_neg, DS.s_cmp1, DS.s_cmp2, DS.s_eq, DS.s_isN, DS.s_in1, DS.s_in2, DS.s_in3, DS.s_in4, DS.s_idx1, DS.s_idx2, DS.s_idx3, DS.s_idx4, DS.s_slc1, DS.s_slc2, DS.s_slc3, DS.s_slc4, DS.s_rev, DS.s_len1, DS.s_len2, DS.s_len3, DS.s_len4, DS.s_len5, DS.s_list1, DS.s_list2, DS.s_list3, DS.s_tuple1, DS.s_tuple2, DS.s_dict1, DS.s_dict2, DS.s_max2, DS.s_min2, DS.s_abs, DS.s_isi, DS.s_sum, DS.s_join, DS.s_upper, DS.s_items, DS.s_vals, DS.s_all, DS.s_str1, DS.s_str2, DS.s_str3, DS.s_int1, DS.s_int2, DS.s_get1, DS.s_get2, DS.s_dct0, DS.s_fz1, DS.s_fz2, DS.s_fz3, DS.s_bf1, DS.s_bf2, DS.s_bf3, DS.s_tr0, DS.s_tr1, DS.s_tr2, DS.s_tr3, DS.s_tr4, DS.s_tr5, DS.s_tr6, DS.s_av0, DS.s_av1, DS.s_av2, DS.s_ag0, DS.s_ag1, DS.s_ag2, DS.s_ty1, DS.s_ty2, DS.s_ty3, DS.s_ix0, DS.s_at0, DS.ex_cons, DS.s_dep1, DS.s_dep2, DS.s_dep3, DS.s_key1, DS.s_key2, DS.s_key3, DS.s_ot0, DS.ex_one, DS.s_ot1, DS.s_sq1, DS.s_sq2, DS.s_sq3, DS.s_sq4, DS.s_rg1, DS.s_rg2, DS.s_en, DS.s_it, DS.s_vl, List.map_cons, List.map_nil, List.cons_append, List.nil_append, List.length_cons, List.length_nil, List.replicate, Nat.add_one_sub_one, Nat.reduceAdd, Nat.reduceSub, List.append_nil, List.getElem?_cons_zero, List.getElem?_cons_succ, List.set_cons_zero, List.set_cons_succ, Option.map_some, Option.some.injEq, exists_eq_left', exists_eq', exists_eq_left, DS.O.pu.injEq, DS.O.fl.injEq, DS.O.fd.injEq, DS.wipeE, DS.backE, Option.getD_some, Option.getD_none, DS.D.bl.injEq, true_and, and_true, if_true, if_false, reduceCtorEq, Bool.false_eq_true, List.nodup_nil, List.nodup_cons, List.not_mem_nil, not_false_eq_true, exists_const, DS.s_at20, DS.s_at21, DS.s_at30, DS.s_at31, DS.s_at32, DS.s_revt, DS.p_non, DS.i_int_non, DS.i_bool_non, DS.i_str_non, DS.i_tuple_non, DS.i_list_non, DS.i_dict_non, DS.i_lt_non, DS.p_bl, DS.i_int_bl, DS.i_bool_bl, DS.i_str_bl, DS.i_tuple_bl, DS.i_list_bl, DS.i_dict_bl, DS.i_lt_bl, DS.p_int, DS.i_int_int, DS.i_bool_int, DS.i_str_int, DS.i_tuple_int, DS.i_list_int, DS.i_dict_int, DS.i_lt_int, DS.p_str, DS.i_int_str, DS.i_bool_str, DS.i_str_str, DS.i_tuple_str, DS.i_list_str, DS.i_dict_str, DS.i_lt_str, DS.p_lst, DS.i_int_lst, DS.i_bool_lst, DS.i_str_lst, DS.i_tuple_lst, DS.i_list_lst, DS.i_dict_lst, DS.i_lt_lst, DS.p_tup, DS.i_int_tup, DS.i_bool_tup, DS.i_str_tup, DS.i_tuple_tup, DS.i_list_tup, DS.i_dict_tup, DS.i_lt_tup, DS.p_dct, DS.i_int_dct, DS.i_bool_dct, DS.i_str_dct, DS.i_tuple_dct, DS.i_list_dct, DS.i_dict_dct, DS.i_lt_dct, DS.ite_tt, DS.ite_ff, Bool.not_true, Bool.not_false, true_and, h20]
        refine ⟨d', rfl, hd'.ask (by omega), hd'.ask3 (by omega), rfl, _, rfl, ?_⟩
        simp only [DS.wSs, DS.wS, DS.wE, DS.wEs, DS.wAs, DS.wOI, DS.wCs, DS.asK, DS.tkD, DS.avIos, DS.putOs, DS.setAll, DS.opW, DS.bindT, DS.bindTs, DS.startE, DS.mTy, DS.ex_some, DS.ex_publ, DS.ex_int, DS.ex_int2, DS.ex_tup, DS.s_add1, DS.s_add2, DS.s_add3, DS.s_add4, DS.s_sub, DS.s_mul1, DS.s_mul2, DS.s_fdiv, DS.s_mod, DS.s_pow, DS.s_neg, DS.s_cmp1, DS.s_cmp2, DS.s_eq, DS.s_isN, DS.s_in1, DS.s_in2, DS.s_in3, DS.s_in4, DS.s_idx1, DS.s_idx2, DS.s_idx3, DS.s_idx4, DS.s_slc1, DS.s_slc2, DS.s_slc3, DS.s_slc4, DS.s_rev, DS.s_len1, DS.s_len2, DS.s_len3, DS.s_len4, DS.s_len5, DS.s_list1, DS.s_list2, DS.s_list3, DS.s_tuple1, DS.s_tuple2, DS.s_dict1, DS.s_dict2, DS.s_max2, DS.s_min2, DS.s_abs, DS.s_isi, DS.s_sum, DS.s_join, DS.s_upper, DS.s_items, DS.s_vals, DS.s_all, DS.s_str1, DS.s_str2, DS.s_str3, DS.s_int1, DS.s_int2, DS.s_get1, DS.s_get2, DS.s_dct0, DS.s_fz1, DS.s_fz2, DS.s_fz3, DS.s_bf1, DS.s_bf2, DS.s_bf3, DS.s_tr0, DS.s_tr1, DS.s_tr2, DS.s_tr3, DS.s_tr4, DS.s_tr5, DS.s_tr6, DS.s_av0, DS.s_av1, DS.s_av2, DS.s_ag0, DS.s_ag1, DS.s_ag2, DS.s_ty1, DS.s_ty2, DS.s_ty3, DS.s_ix0, DS.s_at0, DS.ex_cons, DS.s_dep1, DS.s_dep2, DS.s_dep3, DS.s_key1, DS.s_key2, DS.s_key3, DS.s_ot0, DS.ex_one, DS.s_ot1, DS.s_sq1, DS.s_sq2, DS.s_sq3, DS.s_sq4, DS.s_rg1, DS.s_rg2, DS.s_en, DS.s_it, DS.s_vl, List.map_cons, List.map_nil, List.cons_append, List.nil_append, List.length_cons, List.length_nil, List.replicate, Nat.add_one_sub_one, Nat.reduceAdd, Nat.reduceSub, List.append_nil, List.getElem?_cons_zero, List.getElem?_cons_succ, List.set_cons_zero, List.set_cons_succ, Option.map_some, Option.some.injEq, exists_eq_left', exists_eq', exists_eq_left, DS.O.pu.injEq, DS.O.fl.injEq, DS.O.fd.injEq, DS.wipeE, DS.backE, Option.getD_some, Option.getD_none, DS.D.bl.injEq, true_and, and_true, if_true, if_false, reduceCtorEq, Bool.false_eq_true, List.nodup_nil, List.nodup_cons, List.not_mem_nil, not_false_eq_true, exists_const, DS.s_at20, DS.s_at21, DS.s_at30, DS.s_at31, DS.s_at32, DS.s_revt, DS.p_non, DS.i_int_non, DS.i_bool_non, DS.i_str_non, DS.i_tuple_non, DS.i_list_non, DS.i_dict_non, DS.i_lt_non, DS.p_bl, DS.i_int_bl, DS.i_bool_bl, DS.i_str_bl, DS.i_tuple_bl, DS.i_list_bl, DS.i_dict_bl, DS.i_lt_bl, DS.p_int, DS.i_int_int, DS.i_bool_int, DS.i_str_int, DS.i_tuple_int, DS.i_list_int, DS.i_dict_int, DS.i_lt_int, DS.p_str, DS.i_int_str, DS.i_bool_str, DS.i_str_str, DS.i_tuple_str, DS.i_list_str, DS.i_dict_str, DS.i_lt_str, DS.p_lst, DS.i_int_lst, DS.i_bool_lst, DS.i_str_lst, DS.i_tuple_lst, DS.i_list_lst, DS.i_dict_lst, DS.i_lt_lst, DS.p_tup, DS.i_int_tup, DS.i_bool_tup, DS.i_str_tup, DS.i_tuple_tup, DS.i_list_tup, DS.i_dict_tup, DS.i_lt_tup, DS.p_dct, DS.i_int_dct, DS.i_bool_dct, DS.i_str_dct, DS.i_tuple_dct, DS.i_list_dct, DS.i_dict_dct, DS.i_lt_dct, DS.ite_tt, DS.ite_ff, Bool.not_true, Bool.not_false, true_and]
        exact hL' _ ⟨fun y hy => hit y (List.mem_cons_of_mem _ hy), s', _, _, _, rfl, hs', by omega⟩
      · rintro i is e L2 ⟨d', mm, s', x7, rfl, hd', hmm, hs'⟩ hL2
        simp only [List.length_cons] at hmm
        simp only [DS.wSs, DS.wS, DS.wE, DS.wEs, DS.wAs, DS.wOI, DS.wCs, DS.asK, DS.tkD, DS.avIos, DS.putOs, DS.setAll, DS.opW, DS.bindT, DS.bindTs, DS.startE, DS.mTy, DS.ex_some, DS.ex_publ, DS.ex_int, DS.ex_int2, DS.ex_tup, DS.s_add1, DS.s_add2, DS.s_add3, DS.s_add4, DS.s_sub, DS.s_mul1, DS.s_mul2, DS.s_fdiv, DS.s_mod, DS.s_pow, DS.s_neg, DS.s_cmp1, DS.s_cmp2, DS.s_eq, DS.s_isN, DS.s_in1, DS.s_in2, DS.s_in3, DS.s_in4, DS.s_idx1, DS.s_idx2, DS.s_idx3, DS.s_idx4, DS.s_slc1, DS.s_slc2, DS.s_slc3, DS.s_slc4, DS.s_rev, DS.s_len1, DS.s_len2, DS.s_len3, DS.s_len4, DS.s_len5, DS.s_list1, DS.s_list2, DS.s_list3, DS.s_tuple1, DS.s_tuple2, DS.s_dict1, DS.s_dict2, DS.s_max2, DS.s_min2, DS.s_abs, DS.s_isi, DS.s_sum, DS.s_join, DS.s_upper, DS.s_items, DS.s_vals, DS.s_all, DS.s_str1, DS.s_str2, DS.s_str3, DS.s_int1, DS.s_int2, DS.s_get1, DS.s_get2, DS.s_dct0, DS.s_fz1, DS.s_fz2, DS.s_fz3, DS.s_bf1, DS.s_bf2, DS.s_bf3, DS.s_tr0, DS.s_tr1, DS.s_tr2, DS.s_tr3, DS.s_tr4, DS.s_tr5, DS.s_tr6, DS.s_av0, DS.s_av1, DS.s_av2, DS.s_ag0, DS.s_ag1, DS.s_ag2, DS.s_ty1, DS.s_ty2, DS.s_ty3, DS.s_ix0, DS.s_at0, DS.ex_cons, DS.s_dep1, DS.s_dep2, DS.s_dep3, DS.s_key1, DS.s_key2, DS.s_key3, DS.s_ot0, DS.ex_one, DS.s_ot1, DS.s_sq1, DS.s_sq2, DS.s_sq3, DS.s_sq4, DS.s_rg1, DS.s_rg2, DS.s_en, DS.s_it, DS.s_vl, List.map_cons, List.map_nil, List.cons_append, List.nil_append, List.length_cons, List.length_nil, List.replicate, Nat.add_one_sub_one, Nat.reduceAdd, Nat.reduceSub, List.append_nil, List.getElem?_cons_zero, List.getElem?_cons_succ, List.set_cons_zero, List.set_cons_succ, Option.map_some, Option.some.injEq, exists_eq_left', exists_eq', exists_eq_left, DS.O.pu.injEq, DS.O.fl.injEq, DS.O.fd.injEq, DS.wipeE, DS.backE, Option.getD_some, Option.getD_none, DS.D.bl.injEq, true_and, and_true, if_true, if_false, reduceCtorEq, Bool.false_eq_true, List.nodup_nil, List.nodup_cons, List.not_mem_nil, not_false_eq_true, exists_const, DS.s_at20, DS.s_at21, DS.s_at30, DS.s_at31, DS.s_at32, DS.s_revt, DS.p_non, DS.i_int_non, DS.i_bool_non, DS.i_str_non, DS.i_tuple_non, DS.i_list_non, DS.i_dict_non, DS.i_lt_non, DS.p_bl, DS.i_int_bl, DS.i_bool_bl, DS.i_str_bl, DS.i_tuple_bl, DS.i_list_bl, DS.i_dict_bl, DS.i_lt_bl, DS.p_int, DS.i_int_int, DS.i_bool_int, DS.i_str_int, DS.i_tuple_int, DS.i_list_int, DS.i_dict_int, DS.i_lt_int, DS.p_str, DS.i_int_str, DS.i_bool_str, DS.i_str_str, DS.i_tuple_str, DS.i_list_str, DS.i_dict_str, DS.i_lt_str, DS.p_lst, DS.i_int_lst, DS.i_bool_lst, DS.i_str_lst, DS.i_tuple_lst, DS.i_list_lst, DS.i_dict_lst, DS.i_lt_lst, DS.p_tup, DS.i_int_tup, DS.i_bool_tup, DS.i_str_tup, DS.i_tuple_tup, DS.i_list_tup, DS.i_dict_tup, DS.i_lt_tup, DS.p_dct, DS.i_int_dct, DS.i_bool_dct, DS.i_str_dct, DS.i_tuple_dct, DS.i_list_dct, DS.i_dict_dct, DS.i_lt_dct, DS.ite_tt, DS.ite_ff, Bool.not_true, Bool.not_false, true_and, h17]
        refine ⟨s', _, mm, mm + 1, d', rfl, by omega, by omega, by omega, hd', hs', by omega, fun y s7 hy h7 => ⟨rfl, ?_⟩⟩
        simp only [DS.wSs, DS.wS, DS.wE, DS.wEs, DS.wAs, DS.wOI, DS.wCs, DS.asK, DS.tkD, DS.avIos, DS.putOs, DS.setAll, DS.opW, DS.bindT, DS.bindTs, DS.startE, DS.mTy, DS.ex_some, DS.ex_publ, DS.ex_int, DS.ex_int2, DS.ex_tup, DS.s_add1, DS.s_add2, DS.s_add3, DS.s_add4, DS.s_sub, DS.s_mul1, DS.s_mul2, DS.s_fdiv, DS.s_mod, DS.s_pow, DS.s_neg, DS.s_cmp1, DS.s_cmp2, DS.s_eq, DS.s_isN, DS.s_in1, DS.s_in2, DS.s_in3, DS.s_in4, DS.s_idx1, DS.s_idx2, DS.s_idx3, DS.s_idx4, DS.s_slc1, DS.s_slc2, DS.s_slc3, DS.s_slc4, DS.s_rev, DS.s_len1, DS.s_len2, DS.s_len3, DS.s_len4, DS.s_len5, DS.s_list1, DS.s_list2, DS.s_list3, DS.s_tuple1, DS.s_tuple2, DS.s_dict1, DS.s_dict2, DS.s_max2, DS.s_min2, DS.s_abs, DS.s_isi, DS.s_sum, DS.s_join, DS.s_upper, DS.s_items, DS.s_vals, DS.s_all, DS.s_str1, DS.s_str2, DS.s_str3, DS.s_int1, DS.s_int2, DS.s_get1, DS.s_get2, DS.s_dct0, DS.s_fz1, DS.s_fz2, DS.s_fz3, DS.s_bf1, DS.s_bf2, DS.s_bf3, DS.s_tr0, DS.s_tr1, DS.s_tr2, DS.s_tr3, DS.s_tr4, DS.s_tr5, DS.s_tr6, DS.s_av0, DS.s_av1, DS.s_av2, DS.s_ag0, DS.s_ag1, DS.s_ag2, DS.s_ty1, DS.s_ty2, DS.s_ty3, DS.s_ix0, DS.s_at0, DS.ex_cons, DS.s_dep1, DS.s_dep2, DS.s_dep3, DS.s_key1, DS.s_key2, DS.s_key3, DS.s_ot0, DS.ex_one, DS.s_ot1, DS.s_sq1, DS.s_sq2, DS.s_sq3, DS.s_sq4, DS.s_rg1, DS.s_rg2, DS.s_en, DS.s_it, DS.s_vl, List.map_cons, List.map_nil, List.cons_append, List.nil_append, List.length_cons, List.length_nil, List.replicate, Nat.add_one_sub_one, Nat.reduceAdd, Nat.reduceSub, List.append_nil, List.getElem?_cons_zero, List.getElem?_cons_succ, List.set_cons_zero, List.set_cons_succ, Option.map_some, Option.some.injEq, exists_eq_left', exists_eq', exists_eq_left, DS.O.pu.injEq, DS.O.fl.injEq, DS.O.fd.injEq, DS.wipeE, DS.backE, Option.getD_some, Option.getD_none, DS.D.bl.injEq, true_and, and_true, if_true, if_false, reduceCtorEq, Bool.false_eq_true, List.nodup_nil, List.nodup_cons, List.not_mem_nil, not_false_eq_true, exists_const, DS.s_at20, DS.s_at21, DS.s_at30, DS.s_at31, DS.s_at32, DS.s_revt, DS.p_non, DS.i_int_non, DS.i_bool_non, DS.i_str_non, DS.i_tuple_non, DS.i_list_non, DS.i_dict_non, DS.i_lt_non, DS.p_bl, DS.i_int_bl, DS.i_bool_bl, DS.i_str_bl, DS.i_tuple_bl, DS.i_list_bl, DS.i_dict_bl, DS.i_lt_bl, DS.p_int, DS.i_int_int, DS.i_bool_int, DS.i_str_int, DS.i_tuple_int, DS.i_list_int, DS.i_dict_int, DS.i_lt_int, DS.p_str, DS.i_int_str, DS.i_bool_str, DS.i_str_str, DS.i_tuple_str, DS.i_list_str, DS.i_dict_str, DS.i_lt_str, DS.p_lst, DS.i_int_lst, DS.i_bool_lst, DS.i_str_lst, DS.i_tuple_lst, DS.i_list_lst, DS.i_dict_lst, DS.i_lt_lst, DS.p_tup, DS.i_int_tup, DS.i_bool_tup, DS.i_str_tup, DS.i_tuple_tup, DS.i_list_tup, DS.i_dict_tup, DS.i_lt_tup, DS.p_dct, DS.i_int_dct, DS.i_bool_dct, DS.i_str_dct, DS.i_tuple_dct, DS.i_list_dct, DS.i_dict_dct, DS.i_lt_dct, DS.ite_tt, DS.ite_ff, Bool.not_true, Bool.not_false, true_and]
        exact hL2 _ ⟨y, mm + 1, s7, _, rfl, hy, by omega, h7.mono (by omega)⟩
      · exact ⟨d, 0, s6, _, rfl, hit d (List.mem_cons_self ..), by simp; omega, h6'⟩
    · refine ⟨fun d hd => ?_, s5, _, _, _, rfl, hs5, by simp⟩
      simp only [List.mem_cons, List.not_mem_nil, or_false] at hd
      rcases hd with rfl | rfl | rfl | rfl
      · refine th_tup (by simp) fun x hx => ?_
        simp only [List.mem_cons, List.not_mem_nil, or_false] at hx
        rcases hx with rfl | rfl | rfl
        · exact tT f hf
        · exact tT o ho
        · exact tb
      · show z.length ≤ 30 * 4 ^ 0
        have := hzn.2.1
        omega
      · exact tb
      · refine th_tup (by simp) fun x hx => ?_
        simp only [List.mem_cons, List.not_mem_nil, or_false] at hx
        rcases hx with rfl | rfl
        · exact tT f hf
        · exact tT o ho
  · intro e nx rt bk ct R he hk
    obtain ⟨x0, x1, x2, x3, x4, x5, x6, x7, rfl⟩ := len8 he
    simp only [DS.wSs, DS.wS, DS.wE, DS.wEs, DS.wAs, DS.wOI, DS.wCs, DS.asK, DS.tkD, DS.avIos, DS.putOs, DS.setAll, DS.opW, DS.bindT, DS.bindTs, DS.startE, DS.mTy, DS.ex_some, DS.ex_publ, DS.ex_int, DS.ex_int2, DS.ex_tup, DS.s_add1, DS.s_add2, DS.s_add3, DS.s_add4, DS.s_sub, DS.s_mul1, DS.s_mul2, DS.s_fdiv, DS.s_mod, DS.s_pow, DS.s_neg, DS.s_cmp1, DS.s_cmp2, DS.s_eq, DS.s_isN, DS.s_in1, DS.s_in2, DS.s_in3, DS.s_in4, DS.s_idx1, DS.s_idx2, DS.s_idx3, DS.s_idx4, DS.s_slc1, DS.s_slc2, DS.s_slc3, DS.s_slc4, DS.s_rev, DS.s_len1, DS.s_len2, DS.s_len3, DS.s_len4, DS.s_len5, DS.s_list1, DS.s_list2, DS.s_list3, DS.s_tuple1, DS.s_tuple2, DS.s_dict1, DS.s_dict2, DS.s_max2, DS.s_min2, DS.s_abs, DS.s_isi, DS.s_sum, DS.s_join, DS.s_upper, DS.s_items, DS.s_vals, DS.s_all, DS.s_str1, DS.s_str2, DS.s_str3, DS.s_int1, DS.s_int2, DS.s_get1, DS.s_get2, DS.s_dct0, DS.s_fz1, DS.s_fz2, DS.s_fz3, DS.s_bf1, DS.s_bf2, DS.s_bf3, DS.s_tr0, DS.s_tr1, DS.s_tr2, DS.s_tr3, DS.s_tr4, DS.s_tr5, DS.s_tr6, DS.s_av0, DS.s_av1, DS.s_av2, DS.s_ag0, DS.s_ag1, DS.s_ag2, DS.s_ty1, DS.s_ty2, DS.s_ty3, DS.s_ix0, DS.s_at0, DS.ex_cons, DS.s_dep1, DS.s_dep2, DS.s_dep3, DS.s_key1, DS.s_key2, DS.s_key3, DS.s_ot0, DS.ex_one, DS.s_ot1, DS.s_sq1, DS.s_sq2, DS.s_sq3, DS.s_sq4, DS.s_rg1, DS.s_rg2, DS.s_en, DS.s_it, DS.s_vl, List.map_cons, List.map_nil, List.cons_append, List.nil_append, List.length_cons, List.length_nil, List.replicate, Nat.add_one_sub_one, Nat.reduceAdd, Nat.reduceSub, List.append_nil, List.getElem?_cons_zero, List.getElem?_cons_succ, List.set_cons_zero, List.set_cons_succ, Option.map_some, Option.some.injEq, exists_eq_left', exists_eq', exists_eq_left, DS.O.pu.injEq, DS.O.fl.injEq, DS.O.fd.injEq, DS.wipeE, DS.backE, Option.getD_some, Option.getD_none, DS.D.bl.injEq, true_and, and_true, if_true, if_false, reduceCtorEq, Bool.false_eq_true, List.nodup_nil, List.nodup_cons, List.not_mem_nil, not_false_eq_true, exists_const, DS.s_at20, DS.s_at21, DS.s_at30, DS.s_at31, DS.s_at32, DS.s_revt, DS.p_non, DS.i_int_non, DS.i_bool_non, DS.i_str_non, DS.i_tuple_non, DS.i_list_non, DS.i_dict_non, DS.i_lt_non, DS.p_bl, DS.i_int_bl, DS.i_bool_bl, DS.i_str_bl, DS.i_tuple_bl, DS.i_list_bl, DS.i_dict_bl, DS.i_lt_bl, DS.p_int, DS.i_int_int, DS.i_bool_int, DS.i_str_int, DS.i_tuple_int, DS.i_list_int, DS.i_dict_int, DS.i_lt_int, DS.p_str, DS.i_int_str, DS.i_bool_str, DS.i_str_str, DS.i_tuple_str, DS.i_list_str, DS.i_dict_str, DS.i_lt_str, DS.p_lst, DS.i_int_lst, DS.i_bool_lst, DS.i_str_lst, DS.i_tuple_lst, DS.i_list_lst, DS.i_dict_lst, DS.i_lt_lst, DS.p_tup, DS.i_int_tup, DS.i_bool_tup, DS.i_str_tup, DS.i_tuple_tup, DS.i_list_tup, DS.i_dict_tup, DS.i_lt_tup, DS.p_dct, DS.i_int_dct, DS.i_bool_dct, DS.i_str_dct, DS.i_tuple_dct, DS.i_list_dct, DS.i_dict_dct, DS.i_lt_dct, DS.ite_tt, DS.ite_ff, Bool.not_true, Bool.not_false, true_and]
    exact hk _
end K01
namespace K01
open PySem PySem.Spec PyProof.Rows L2 DS
def d0 : Df := ⟨"is_number", s0, N0, P0, f0, fsNumber, none⟩
def d1 : Df := ⟨"is_name", s1, N1, P1, f1, fsName, none⟩
def d2 : Df := ⟨"is_term", s2, N2, P2, f2, fsTerm, none⟩
def d3 : Df := ⟨"is_constraint", s3, N3, P3, f3, fsCons, none⟩
def d4 : Df := ⟨"_law_begin", s4, N4, P4, f4, fsBegin, none⟩
def d5 : Df := ⟨"_law_draw", s5, N5, P5, f5, fsDraw, none⟩
def d6 : Df := ⟨"_law_pick", s6, N6, P6, f6, fsPick, none⟩
def d7 : Df := ⟨"_law_names", s7, N7, P7, f7, fsNames, none⟩
def d8 : Df := ⟨"_law_hidden", s8, N8, P8, f8, fsHidden, none⟩
def d9 : Df := ⟨"_law_at", s9, N9, P9, f9, fsAt, none⟩
def d10 : Df := ⟨"_law_row", s10, N10, P10, f10, fsRow, none⟩
def d11 : Df := ⟨"_law_text_bent", s11, N11, P11, f11, fsTextBent, none⟩
def d12 : Df := ⟨"_law_number_bent", s12, N12, P12, f12, fsNb, none⟩
def d13 : Df := ⟨"_law_bent", s13, N13, P13, f13, fsNo, none⟩
def d14 : Df := ⟨"_law_bent", s14, N14, P14, f14, fsBent 0, none⟩
def d15 : Df := ⟨"_law_bent", s15, N15, P15, f15, fsBent 1, none⟩
def d16 : Df := ⟨"_law_bent", s16, N16, P16, f16, fsBent 2, none⟩
def d17 : Df := ⟨"_law_bent", s17, N17, P17, f17, fsBent 3, none⟩
def d18 : Df := ⟨"_law_is_name", s18, N18, P18, f18, fsName, none⟩
def d19 : Df := ⟨"_law_is_row", s19, N19, P19, f19, fsRowIs, none⟩
def d20 : Df := ⟨"_law_right", s20, N20, P20, f20, fsRight, none⟩
def d21 : Df := ⟨"law", s21, N21, P21, f21, fsLaw, none⟩
def ds : List Df := [d0, d1, d2, d3, d4, d5, d6, d7, d8, d9, d10, d11, d12, d13, d14, d15, d16, d17, d18, d19, d20, d21]
theorem c0 : Df.Chk cs ds 0 d0 := ⟨fun _ => ⟨rfl, rfl, rfl, by decide +kernel, rfl, by decide +kernel, by decide +kernel⟩, fun _ => .inr (by decide +kernel), fun _ => rfl, fun _ => rfl, fun _ => by decide, fun _ => by decide, fun _ => ok_number, fun _ => fun _ _ _ _ _ _ us ws h1 h2 => (match us, ws, h1, h2 with | [_, _, _], [], _, _ => rfl), fun a h => by cases h⟩
theorem c1 : Df.Chk cs ds 1 d1 := ⟨fun _ => ⟨rfl, rfl, rfl, by decide +kernel, rfl, by decide +kernel, by decide +kernel⟩, fun _ => .inr (by decide +kernel), fun _ => rfl, fun _ => rfl, fun _ => by decide, fun _ => by decide, fun _ => ok_name, fun _ => fun _ _ _ _ _ _ us ws h1 h2 => (match us, ws, h1, h2 with | [_], [], _, _ => rfl), fun a h => by cases h⟩
theorem c2 : Df.Chk cs ds 2 d2 := ⟨fun _ => ⟨rfl, rfl, rfl, by decide +kernel, rfl, by decide +kernel, by decide +kernel⟩, fun _ => .inr (by decide +kernel), fun _ => rfl, fun _ => rfl, fun _ => by decide, fun _ => by decide, fun _ => ok_term rfl, fun _ => fun _ _ _ _ _ _ us ws h1 h2 => (match us, ws, h1, h2 with | [_], [], _, _ => rfl), fun a h => by cases h⟩
theorem c3 : Df.Chk cs ds 3 d3 := ⟨fun _ => ⟨rfl, rfl, rfl, by decide +kernel, rfl, by decide +kernel, by decide +kernel⟩, fun _ => .inr (by decide +kernel), fun _ => rfl, fun _ => rfl, fun _ => by decide, fun _ => by decide, fun _ => ok_cons rfl rfl, fun _ => fun _ _ _ _ _ _ us ws h1 h2 => (match us, ws, h1, h2 with | [_], [], _, _ => rfl), fun a h => by cases h⟩
theorem c4 : Df.Chk cs ds 4 d4 := ⟨fun _ => ⟨rfl, rfl, rfl, by decide +kernel, rfl, by decide +kernel, by decide +kernel⟩, fun _ => .inr (by decide +kernel), fun _ => rfl, fun _ => rfl, fun _ => by decide, fun _ => by decide, fun _ => ok_begin, fun _ => fun _ _ _ _ _ _ us ws h1 h2 => (match us, ws, h1, h2 with | [_, _], [], _, _ => rfl), fun a h => by cases h⟩
theorem c5 : Df.Chk cs ds 5 d5 := ⟨fun _ => ⟨rfl, rfl, rfl, by decide +kernel, rfl, by decide +kernel, by decide +kernel⟩, fun _ => .inr (by decide +kernel), fun _ => rfl, fun _ => rfl, fun _ => by decide, fun _ => by decide, fun _ => ok_draw, fun _ => fun _ _ _ _ _ _ us ws h1 h2 => (match us, ws, h1, h2 with | [_, _], [], _, _ => rfl), fun a h => by cases h⟩
theorem c6 : Df.Chk cs ds 6 d6 := ⟨fun _ => ⟨rfl, rfl, rfl, by decide +kernel, rfl, by decide +kernel, by decide +kernel⟩, fun _ => .inr (by decide +kernel), fun _ => rfl, fun _ => rfl, fun _ => by decide, fun _ => by decide, fun _ => ok_pick rfl, fun _ => fun _ _ _ _ _ _ us ws h1 h2 => (match us, ws, h1, h2 with | [_, _], [], _, _ => rfl), fun a h => by cases h⟩
theorem c7 : Df.Chk cs ds 7 d7 := ⟨fun _ => ⟨rfl, rfl, rfl, by decide +kernel, rfl, by decide +kernel, by decide +kernel⟩, fun _ => .inr (by decide +kernel), fun _ => rfl, fun _ => rfl, fun _ => by decide, fun _ => by decide, fun _ => ok_names rfl rfl, fun _ => fun _ _ _ _ _ _ us ws h1 h2 => (match us, ws, h1, h2 with | [_, _], [], _, _ => rfl), fun a h => by cases h⟩
theorem c8 : Df.Chk cs ds 8 d8 := ⟨fun _ => ⟨rfl, rfl, rfl, by decide +kernel, rfl, by decide +kernel, by decide +kernel⟩, fun _ => .inr (by decide +kernel), fun _ => rfl, fun _ => rfl, fun _ => by decide, fun _ => by decide, fun _ => ok_hidden rfl rfl, fun _ => fun _ _ _ _ _ _ us ws h1 h2 => (match us, ws, h1, h2 with | [_, _], [], _, _ => rfl), fun a h => by cases h⟩
theorem c9 : Df.Chk cs ds 9 d9 := ⟨fun _ => ⟨rfl, rfl, rfl, by decide +kernel, rfl, by decide +kernel, by decide +kernel⟩, fun _ => .inr (by decide +kernel), fun _ => rfl, fun _ => rfl, fun _ => by decide, fun _ => by decide, fun _ => ok_at, fun _ => fun _ _ _ _ _ _ us ws h1 h2 => (match us, ws, h1, h2 with | [_, _], [], _, _ => rfl), fun a h => by cases h⟩
theorem c10 : Df.Chk cs ds 10 d10 := ⟨fun _ => ⟨rfl, rfl, rfl, by decide +kernel, rfl, by decide +kernel, by decide +kernel⟩, fun _ => .inr (by decide +kernel), fun _ => rfl, fun _ => rfl, fun _ => by decide, fun _ => by decide, fun _ => ok_row rfl rfl rfl, fun _ => fun _ _ _ _ _ _ us ws h1 h2 => (match us, ws, h1, h2 with | [_, _, _], [], _, _ => rfl), fun a h => by cases h⟩
theorem c11 : Df.Chk cs ds 11 d11 := ⟨fun _ => ⟨rfl, rfl, rfl, by decide +kernel, rfl, by decide +kernel, by decide +kernel⟩, fun _ => .inr (by decide +kernel), fun _ => rfl, fun _ => rfl, fun _ => by decide, fun _ => by decide, fun _ => ok_text_bent rfl rfl, fun _ => fun _ _ _ _ _ _ us ws h1 h2 => (match us, ws, h1, h2 with | [_, _], [], _, _ => rfl), fun a h => by cases h⟩
theorem c12 : Df.Chk cs ds 12 d12 := ⟨fun _ => ⟨rfl, rfl, rfl, by decide +kernel, rfl, by decide +kernel, by decide +kernel⟩, fun _ => .inr (by decide +kernel), fun _ => rfl, fun _ => rfl, fun _ => by decide, fun _ => by decide, fun _ => ok12 rfl, fun _ => fun _ _ _ _ _ _ us ws h1 h2 => (match us, ws, h1, h2 with | [_, _], [], _, _ => rfl), fun a h => by cases h⟩
theorem c13 : Df.Chk cs ds 13 d13 := ⟨fun _ => ⟨rfl, rfl, rfl, by decide +kernel, rfl, by decide +kernel, by decide +kernel⟩, fun _ => .inl fun _ _ _ h => h, fun _ => rfl, fun _ => rfl, fun _ => by decide, fun _ => by decide, fun _ => (fun _ _ _ h => h.elim), fun _ => fun _ _ _ _ _ _ us ws h1 h2 => (match us, ws, h1, h2 with | [_, _], [], _, _ => rfl), fun a h => by cases h⟩
theorem c14 : Df.Chk cs ds 14 d14 := ⟨fun _ => ⟨rfl, rfl, rfl, by decide +kernel, rfl, by decide +kernel, by decide +kernel⟩, fun _ => .inr (by decide +kernel), fun _ => rfl, fun _ => rfl, fun _ => by decide, fun _ => by decide, fun _ => okB rfl rfl rfl rfl rfl, fun _ => fun _ _ _ _ _ _ us ws h1 h2 => (match us, ws, h1, h2 with | [_, _], [], _, _ => rfl), fun a h => by cases h⟩
theorem c15 : Df.Chk cs ds 15 d15 := ⟨fun _ => ⟨rfl, rfl, rfl, by decide +kernel, rfl, by decide +kernel, by decide +kernel⟩, fun _ => .inr (by decide +kernel), fun _ => rfl, fun _ => rfl, fun _ => by decide, fun _ => by decide, fun _ => okB rfl rfl rfl rfl rfl, fun _ => fun _ _ _ _ _ _ us ws h1 h2 => (match us, ws, h1, h2 with | [_, _], [], _, _ => rfl), fun a h => by cases h⟩
theorem c16 : Df.Chk cs ds 16 d16 := ⟨fun _ => ⟨rfl, rfl, rfl, by decide +kernel, rfl, by decide +kernel, by decide +kernel⟩, fun _ => .inr (by decide +kernel), fun _ => rfl, fun _ => rfl, fun _ => by decide, fun _ => by decide, fun _ => okB rfl rfl rfl rfl rfl, fun _ => fun _ _ _ _ _ _ us ws h1 h2 => (match us, ws, h1, h2 with | [_, _], [], _, _ => rfl), fun a h => by cases h⟩
theorem c17 : Df.Chk cs ds 17 d17 := ⟨fun _ => ⟨rfl, rfl, rfl, by decide +kernel, rfl, by decide +kernel, by decide +kernel⟩, fun _ => .inr (by decide +kernel), fun _ => rfl, fun _ => rfl, fun _ => by decide, fun _ => by decide, fun _ => okB rfl rfl rfl rfl rfl, fun _ => fun _ _ _ _ _ _ us ws h1 h2 => (match us, ws, h1, h2 with | [_, _], [], _, _ => rfl), fun a h => by cases h⟩
theorem c18 : Df.Chk cs ds 18 d18 := ⟨fun _ => ⟨rfl, rfl, rfl, by decide +kernel, rfl, by decide +kernel, by decide +kernel⟩, fun _ => .inr (by decide +kernel), fun _ => rfl, fun _ => rfl, fun _ => by decide, fun _ => by decide, fun _ => ok18, fun _ => fun _ _ _ _ _ _ us ws h1 h2 => (match us, ws, h1, h2 with | [_], [], _, _ => rfl), fun a h => by cases h⟩
theorem c19 : Df.Chk cs ds 19 d19 := ⟨fun _ => ⟨rfl, rfl, rfl, by decide +kernel, rfl, by decide +kernel, by decide +kernel⟩, fun _ => .inr (by decide +kernel), fun _ => rfl, fun _ => rfl, fun _ => by decide, fun _ => by decide, fun _ => ok19 rfl, fun _ => fun _ _ _ _ _ _ us ws h1 h2 => (match us, ws, h1, h2 with | [_], [], _, _ => rfl), fun a h => by cases h⟩
theorem c20 : Df.Chk cs ds 20 d20 := ⟨fun _ => ⟨rfl, rfl, rfl, by decide +kernel, rfl, by decide +kernel, by decide +kernel⟩, fun _ => .inr (by decide +kernel), fun _ => rfl, fun _ => rfl, fun _ => by decide, fun _ => by decide, fun _ => ok20 rfl rfl rfl rfl, fun _ => fun _ _ _ _ _ _ us ws h1 h2 => (match us, ws, h1, h2 with | [_], [], _, _ => rfl), fun a h => by cases h⟩
theorem c21 : Df.Chk cs ds 21 d21 := ⟨fun _ => ⟨rfl, rfl, rfl, by decide +kernel, rfl, by decide +kernel, by decide +kernel⟩, fun _ => .inr (by decide +kernel), fun _ => rfl, fun _ => rfl, fun _ => by decide, fun _ => by decide, fun _ => ok21 rfl rfl rfl rfl rfl rfl rfl rfl, fun _ => fun _ _ _ _ _ _ us ws h1 h2 => (match us, ws, h1, h2 with | [_], [], _, _ => rfl), fun a h => by cases h⟩
theorem chk : ∀ i d, ds[i]? = some d → Df.Chk cs ds i d
  | 0, d, h => by cases h; exact c0
  | 1, d, h => by cases h; exact c1
  | 2, d, h => by cases h; exact c2
  | 3, d, h => by cases h; exact c3
  | 4, d, h => by cases h; exact c4
  | 5, d, h => by cases h; exact c5
  | 6, d, h => by cases h; exact c6
  | 7, d, h => by cases h; exact c7
  | 8, d, h => by cases h; exact c8
  | 9, d, h => by cases h; exact c9
  | 10, d, h => by cases h; exact c10
  | 11, d, h => by cases h; exact c11
  | 12, d, h => by cases h; exact c12
  | 13, d, h => by cases h; exact c13
  | 14, d, h => by cases h; exact c14
  | 15, d, h => by cases h; exact c15
  | 16, d, h => by cases h; exact c16
  | 17, d, h => by cases h; exact c17
  | 18, d, h => by cases h; exact c18
  | 19, d, h => by cases h; exact c19
  | 20, d, h => by cases h; exact c20
  | 21, d, h => by cases h; exact c21
  | n + 22, d, h => by cases h
theorem at_mk {K : PySem.W.Frag} {h : Heap} {mg : Str → Option Value} (X : K.In h) (G : h.Ns mainGlobals mg) {x : Str} {st : Stmt} {f : Addr} {od an : Option Addr} {sl : Array (Option Value)} {oc kV dc pm cd ct : Value}
    (a : PySem.W.nsIn K mainGlobals x = some (some (.ref f))) (l : K.lookup f = some ⟨oc, od, .func (PySem.W.fnOf x x (defArgs st) (defBody st) (defScope st) .none kV dc pm an cd ct), sl⟩) (c : PySem.W.codeIn K cd x = true) (k : PySem.W.keepIn K (.ref f) = true) : ∃ f fd, L2.Fun K x x st f fd ∧ mg x = some (.ref f) :=
  ⟨f, _, fun_mk l c k, PySem.W.mg_of X G a⟩
end K01
open PySem PySem.W PyProof.Rows
set_option maxHeartbeats 0 in
theorem PySem.Challenge.cw_lateamounts_k01_names_and_constraints_re_holds : PySem.Challenge.rw_lateamounts_k01_names_and_constraints_re.Holds := by
  w_on; o_law; k_head; (case hw => w_witness2)
  k_fill
  refine DS.law_end (l := PySem.Challenge.rw_lateamounts_k01_names_and_constraints_re) (x := "_law_script") K01.cs K01.ds 21 K01.d21 rfl rfl rfl rfl rfl rfl rfl rfl rfl ⟨rfl, by decide, by decide⟩ (fun w h Y => PySem.W.kIn_of Y) K01.chk ?F (fun _ _ _ _ _ _ _ => rfl)
  case F =>
    intro w mg h X G
    refine ⟨?_, ?_, ?_⟩
    · refine List.forall_mem_cons.2 ⟨?d0, List.forall_mem_cons.2 ⟨?d1, List.forall_mem_cons.2 ⟨?d2, List.forall_mem_cons.2 ⟨?d3, List.forall_mem_cons.2 ⟨?d4, List.forall_mem_cons.2 ⟨?d5, List.forall_mem_cons.2 ⟨?d6, List.forall_mem_cons.2 ⟨?d7, List.forall_mem_cons.2 ⟨?d8, List.forall_mem_cons.2 ⟨?d9, List.forall_mem_cons.2 ⟨?d10, List.forall_mem_cons.2 ⟨?d11, List.forall_mem_cons.2 ⟨?d12, List.forall_mem_cons.2 ⟨?d13, List.forall_mem_cons.2 ⟨?d14, List.forall_mem_cons.2 ⟨?d15, List.forall_mem_cons.2 ⟨?d16, List.forall_mem_cons.2 ⟨?d17, List.forall_mem_cons.2 ⟨?d18, List.forall_mem_cons.2 ⟨?d19, List.forall_mem_cons.2 ⟨?d20, List.forall_mem_cons.2 ⟨?d21, fun _ h => by cases h⟩⟩⟩⟩⟩⟩⟩⟩⟩⟩⟩⟩⟩⟩⟩⟩⟩⟩⟩⟩⟩⟩
      case d0 => refine' fun _ => K01.at_mk (x := "is_number") (st := K01.s0) X G ?a ?l ?c ?k; (case a => k_is); (case l => k_is); (case c => k_is); (case k => k_is)
      case d1 => refine' fun _ => K01.at_mk (x := "is_name") (st := K01.s1) X G ?a ?l ?c ?k; (case a => k_is); (case l => k_is); (case c => k_is); (case k => k_is)
      case d2 => refine' fun _ => K01.at_mk (x := "is_term") (st := K01.s2) X G ?a ?l ?c ?k; (case a => k_is); (case l => k_is); (case c => k_is); (case k => k_is)
      case d3 => refine' fun _ => K01.at_mk (x := "is_constraint") (st := K01.s3) X G ?a ?l ?c ?k; (case a => k_is); (case l => k_is); (case c => k_is); (case k => k_is)
      case d4 => refine' fun _ => K01.at_mk (x := "_law_begin") (st := K01.s4) X G ?a ?l ?c ?k; (case a => k_is); (case l => k_is); (case c => k_is); (case k => k_is)
      case d5 => refine' fun _ => K01.at_mk (x := "_law_draw") (st := K01.s5) X G ?a ?l ?c ?k; (case a => k_is); (case l => k_is); (case c => k_is); (case k => k_is)
      case d6 => refine' fun _ => K01.at_mk (x := "_law_pick") (st := K01.s6) X G ?a ?l ?c ?k; (case a => k_is); (case l => k_is); (case c => k_is); (case k => k_is)
      case d7 => refine' fun _ => K01.at_mk (x := "_law_names") (st := K01.s7) X G ?a ?l ?c ?k; (case a => k_is); (case l => k_is); (case c => k_is); (case k => k_is)
      case d8 => refine' fun _ => K01.at_mk (x := "_law_hidden") (st := K01.s8) X G ?a ?l ?c ?k; (case a => k_is); (case l => k_is); (case c => k_is); (case k => k_is)
      case d9 => refine' fun _ => K01.at_mk (x := "_law_at") (st := K01.s9) X G ?a ?l ?c ?k; (case a => k_is); (case l => k_is); (case c => k_is); (case k => k_is)
      case d10 => refine' fun _ => K01.at_mk (x := "_law_row") (st := K01.s10) X G ?a ?l ?c ?k; (case a => k_is); (case l => k_is); (case c => k_is); (case k => k_is)
      case d11 => refine' fun _ => K01.at_mk (x := "_law_text_bent") (st := K01.s11) X G ?a ?l ?c ?k; (case a => k_is); (case l => k_is); (case c => k_is); (case k => k_is)
      case d12 => refine' fun _ => K01.at_mk (x := "_law_number_bent") (st := K01.s12) X G ?a ?l ?c ?k; (case a => k_is); (case l => k_is); (case c => k_is); (case k => k_is)
      case d13 => refine' fun _ => K01.at_mk (x := "_law_bent") (st := K01.s13) X G ?a ?l ?c ?k; (case a => k_is); (case l => k_is); (case c => k_is); (case k => k_is)
      case d14 => refine' fun _ => K01.at_mk (x := "_law_bent") (st := K01.s14) X G ?a ?l ?c ?k; (case a => k_is); (case l => k_is); (case c => k_is); (case k => k_is)
      case d15 => refine' fun _ => K01.at_mk (x := "_law_bent") (st := K01.s15) X G ?a ?l ?c ?k; (case a => k_is); (case l => k_is); (case c => k_is); (case k => k_is)
      case d16 => refine' fun _ => K01.at_mk (x := "_law_bent") (st := K01.s16) X G ?a ?l ?c ?k; (case a => k_is); (case l => k_is); (case c => k_is); (case k => k_is)
      case d17 => refine' fun _ => K01.at_mk (x := "_law_bent") (st := K01.s17) X G ?a ?l ?c ?k; (case a => k_is); (case l => k_is); (case c => k_is); (case k => k_is)
      case d18 => refine' fun _ => K01.at_mk (x := "_law_is_name") (st := K01.s18) X G ?a ?l ?c ?k; (case a => k_is); (case l => k_is); (case c => k_is); (case k => k_is)
      case d19 => refine' fun _ => K01.at_mk (x := "_law_is_row") (st := K01.s19) X G ?a ?l ?c ?k; (case a => k_is); (case l => k_is); (case c => k_is); (case k => k_is)
      case d20 => refine' fun _ => K01.at_mk (x := "_law_right") (st := K01.s20) X G ?a ?l ?c ?k; (case a => k_is); (case l => k_is); (case c => k_is); (case k => k_is)
      case d21 => refine' fun _ => K01.at_mk (x := "law") (st := K01.s21) X G ?a ?l ?c ?k; (case a => k_is); (case l => k_is); (case c => k_is); (case k => k_is)
    · refine List.forall_mem_cons.2 ⟨?_, ?_⟩
      · refine' PySem.W.mg_none_of X G ?z; (case z => k_is)
      refine List.forall_mem_cons.2 ⟨?_, ?_⟩
      · refine' PySem.W.mg_none_of X G ?z; (case z => k_is)
      refine List.forall_mem_cons.2 ⟨?_, ?_⟩
      · refine' PySem.W.mg_none_of X G ?z; (case z => k_is)
      refine List.forall_mem_cons.2 ⟨?_, ?_⟩
      · refine' PySem.W.mg_none_of X G ?z; (case z => k_is)
      refine List.forall_mem_cons.2 ⟨?_, ?_⟩
      · refine' PySem.W.mg_none_of X G ?z; (case z => k_is)
      refine List.forall_mem_cons.2 ⟨?_, ?_⟩
      · refine' PySem.W.mg_none_of X G ?z; (case z => k_is)
      refine List.forall_mem_cons.2 ⟨?_, ?_⟩
      · refine' PySem.W.mg_none_of X G ?z; (case z => k_is)
      refine List.forall_mem_cons.2 ⟨?_, ?_⟩
      · refine' PySem.W.mg_none_of X G ?z; (case z => k_is)
      refine List.forall_mem_cons.2 ⟨?_, ?_⟩
      · refine' PySem.W.mg_none_of X G ?z; (case z => k_is)
      refine List.forall_mem_cons.2 ⟨?_, ?_⟩
      · refine' PySem.W.mg_none_of X G ?z; (case z => k_is)
      refine List.forall_mem_cons.2 ⟨?_, ?_⟩
      · refine' PySem.W.mg_none_of X G ?z; (case z => k_is)
      refine List.forall_mem_cons.2 ⟨?_, ?_⟩
      · refine' PySem.W.mg_none_of X G ?z; (case z => k_is)
      refine List.forall_mem_cons.2 ⟨?_, ?_⟩
      · refine' PySem.W.mg_none_of X G ?z; (case z => k_is)
      refine List.forall_mem_cons.2 ⟨?_, ?_⟩
      · refine' PySem.W.mg_none_of X G ?z; (case z => k_is)
      refine List.forall_mem_cons.2 ⟨?_, ?_⟩
      · refine' PySem.W.mg_none_of X G ?z; (case z => k_is)
      refine List.forall_mem_cons.2 ⟨?_, ?_⟩
      · refine' PySem.W.mg_none_of X G ?z; (case z => k_is)
      refine List.forall_mem_cons.2 ⟨?_, ?_⟩
      · refine' PySem.W.mg_none_of X G ?z; (case z => k_is)
      refine List.forall_mem_cons.2 ⟨?_, ?_⟩
      · refine' PySem.W.mg_none_of X G ?z; (case z => k_is)
      refine List.forall_mem_cons.2 ⟨?_, ?_⟩
      · refine' PySem.W.mg_none_of X G ?z; (case z => k_is)
      refine List.forall_mem_cons.2 ⟨?_, ?_⟩
      · refine' PySem.W.mg_none_of X G ?z; (case z => k_is)
      exact fun _ h => by cases h
    · refine List.forall_mem_cons.2 ⟨?q0, List.forall_mem_cons.2 ⟨?q1, fun _ h => by cases h⟩⟩
      case q0 => refine' ⟨.int 6, ⟨_, PySem.W.mg_of (n := "LONGEST_NAME") X G ?a, ?r⟩, fun _ _ _ => ?e⟩; (case a => k_is); (case r => exact ⟨_, rfl⟩); (case e => simp only [DS.RD])
      case q1 => refine' ⟨.int 1000000000, ⟨_, PySem.W.mg_of (n := "MOST_BOUND") X G ?a, ?r⟩, fun _ _ _ => ?e⟩; (case a => k_is); (case r => exact ⟨_, rfl⟩); (case e => simp only [DS.RD])
