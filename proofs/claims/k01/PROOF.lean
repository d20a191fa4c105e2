import PyProof.Rows.All
import Wide.All
import OpenK.AllK
import Wide.FinOn
import KE.KStateDown
import Lean
import HandS.ForMost
import HandS.TupAny
import HandS.Style
import HandS.Wide
import HandS.Deep
import HandS.Star
import HandS.Zip
import KE.GoesEnum
import HandS.Defaults
import HandS.SetFor
import HandS.More
import HandS.Strs
import HandS.StrMore
import HandS.IsInst
import HandS.Conv
import PyProof.Rows.StrLast
import KE.DataFind
import HandS.Head2
import HandS.HeadHook2
import HandS.HeadHook4
import HandS.HeadEnd
import HandS.HeadHook1
import PySem.Challenge.RW_linkpaths_k01_path_values
set_option Elab.async false
set_option linter.all false
set_option maxRecDepth 100000
/-! P1: pure data D, slot values W (owned or frozen), their representation in the abstract heap, the state relation Rp, temporaries, frames. -/
namespace PD
open PySem PySem.Spec L2
open PyProof.Rows hiding St

/-- pure data -/
inductive D where
  | non | bl (b : Bool) | int (i : Int) | str (z : List Nat) | lst (xs : List D) | tup (xs : List D) | dic (kvs : List (D × D)) | scr (xs : List D)
  deriving Inhabited
def kD : Key → D
  | .inl i => .int i
  | .inr x => .str x.cps.toList

/-- a text that the machine can hold -/
def okS (z : List Nat) : Prop := z.length ≤ sizeLine ∧ ∀ c ∈ z, c < 1114112
instance (z : List Nat) : Decidable (okS z) := inferInstanceAs (Decidable (_ ∧ _))
def okK : Key → Prop
  | .inl _ => True
  | .inr z => okS z.cps.toList
mutual
/-- v stands for d, by objects of F alone (they are never changed) -/
inductive RepF (K : PySem.W.Frag) (F : Hp) : V → D → Prop
  | non : RepF K F .non .non
  | bl (b : Bool) : RepF K F (.bl b) (.bl b)
  | int (i : Int) : RepF K F (.int i) (.int i)
  | str (z : List Nat) (h : okS z) : RepF K F (.str ⟨z.toArray⟩) (.str z)
  | lst {a : Addr} {vs : List V} {ds : List D} : F a = some (.lst vs) → RepFs K F vs ds → RepF K F (.ref a) (.lst ds)
  | scr {a : Addr} {vs : List V} {ds : List D} : SqL K F a vs → RepFs K F vs ds → RepF K F (.ref a) (.scr ds)
  | tup {a : Addr} {vs : List V} {ds : List D} : SqT K F a vs → RepFs K F vs ds → RepF K F (.ref a) (.tup ds)
  | dic {a : Addr} {kvs : List (Key × V)} {ds : List (D × D)} : F a = some (.dK kvs) → RepKs K F kvs ds → RepF K F (.ref a) (.dic ds)
inductive RepFs (K : PySem.W.Frag) (F : Hp) : List V → List D → Prop
  | nil : RepFs K F [] []
  | cons {v : V} {vs : List V} {d : D} {ds : List D} : RepF K F v d → RepFs K F vs ds → RepFs K F (v :: vs) (d :: ds)
inductive RepKs (K : PySem.W.Frag) (F : Hp) : List (Key × V) → List (D × D) → Prop
  | nil : RepKs K F [] []
  | cons {k : Key} {v : V} {kvs : List (Key × V)} {d : D} {ds : List (D × D)} : okK k → RepF K F v d → RepKs K F kvs ds → RepKs K F ((k, v) :: kvs) ((kD k, d) :: ds)
end

theorem Same.sqT {K : PySem.W.Frag} {H H' : Hp} {a : Addr} {xs : List V} (e : Same H H') (h : SqT K H a xs) : SqT K H' a xs := by
  rcases h with (h | ⟨o, h⟩) | h
  · exact .inl (.inl (e _ _ h))
  · exact .inl (.inr ⟨o, e _ _ h⟩)
  · exact .inr h

section
variable {K : PySem.W.Frag} {F F' : Hp}
mutual
theorem RepF.mono (e : Same F F') : ∀ {v : V} {d : D}, RepF K F v d → RepF K F' v d
  | _, _, .non => .non
  | _, _, .bl b => .bl b
  | _, _, .int i => .int i
  | _, _, .str z h => .str z h
  | _, _, .lst h r => .lst (e _ _ h) (RepFs.mono e r)
  | _, _, .scr h r => .scr (Same.seq e h) (RepFs.mono e r)
  | _, _, .tup h r => .tup (Same.sqT e h) (RepFs.mono e r)
  | _, _, .dic h r => .dic (e _ _ h) (RepKs.mono e r)
theorem RepFs.mono (e : Same F F') : ∀ {vs : List V} {ds : List D}, RepFs K F vs ds → RepFs K F' vs ds
  | _, _, .nil => .nil
  | _, _, .cons r t => .cons (RepF.mono e r) (RepFs.mono e t)
theorem RepKs.mono (e : Same F F') : ∀ {kvs : List (Key × V)} {ds : List (D × D)}, RepKs K F kvs ds → RepKs K F' kvs ds
  | _, _, .nil => .nil
  | _, _, .cons o r t => .cons o (RepF.mono e r) (RepKs.mono e t)
end
theorem RepFs.length : ∀ {vs : List V} {ds : List D}, RepFs K F vs ds → vs.length = ds.length
  | _, _, .nil => rfl
  | _, _, .cons _ t => congrArg (· + 1) (RepFs.length t)
theorem RepFs.append : ∀ {vs ws : List V} {ds es : List D}, RepFs K F vs ds → RepFs K F ws es → RepFs K F (vs ++ ws) (ds ++ es)
  | _, _, _, _, .nil, s => s
  | _, _, _, _, .cons r t, s => .cons r (RepFs.append t s)
theorem RepFs.get : ∀ {vs : List V} {ds : List D} {i : Nat} {d : D}, RepFs K F vs ds → ds[i]? = some d → ∃ v, vs[i]? = some v ∧ RepF K F v d
  | _, _, _, _, .nil, e => by simp at e
  | _, _, 0, _, .cons r _, e => by simp at e; subst e; exact ⟨_, rfl, r⟩
  | _, _, i + 1, d, .cons _ t, e => by
    obtain ⟨u, h1, h2⟩ := RepFs.get (i := i) (d := d) t (by simpa using e)
    exact ⟨u, by simpa using h1, h2⟩
theorem RepFs.get' : ∀ {vs : List V} {ds : List D} {i : Nat} {v : V}, RepFs K F vs ds → vs[i]? = some v → ∃ d, ds[i]? = some d ∧ RepF K F v d
  | _, _, _, _, .nil, e => by simp at e
  | _, _, 0, _, .cons r _, e => by simp at e; subst e; exact ⟨_, rfl, r⟩
  | _, _, i + 1, d, .cons _ t, e => by
    obtain ⟨u, h1, h2⟩ := RepFs.get' (i := i) (v := d) t (by simpa using e)
    exact ⟨u, by simpa using h1, h2⟩
theorem RepFs.set {x : V} {u : D} (r : RepF K F x u) : ∀ {xs : List V} {us : List D} (i : Nat), RepFs K F xs us → RepFs K F (xs.set i x) (us.set i u)
  | _, _, _, .nil => .nil
  | _, _, 0, .cons _ t => .cons r t
  | _, _, i + 1, .cons q t => .cons q (RepFs.set r i t)
theorem RepFs.take : ∀ {xs : List V} {us : List D} (n : Nat), RepFs K F xs us → RepFs K F (xs.take n) (us.take n)
  | _, _, 0, _ => .nil
  | _, _, _ + 1, .nil => .nil
  | _, _, n + 1, .cons r t => .cons r (RepFs.take n t)
theorem RepFs.drop : ∀ {xs : List V} {us : List D} (n : Nat), RepFs K F xs us → RepFs K F (xs.drop n) (us.drop n)
  | _, _, 0, r => r
  | _, _, _ + 1, .nil => .nil
  | _, _, n + 1, .cons _ t => RepFs.drop n t
theorem RepFs.reverse : ∀ {xs : List V} {us : List D}, RepFs K F xs us → RepFs K F xs.reverse us.reverse
  | _, _, .nil => .nil
  | _, _, .cons r t => by
    rw [List.reverse_cons, List.reverse_cons]
    exact (RepFs.reverse t).append (.cons r .nil)
theorem RepFs.eraseIdx : ∀ {xs : List V} {us : List D} (i : Nat), RepFs K F xs us → RepFs K F (xs.eraseIdx i) (us.eraseIdx i)
  | _, _, _, .nil => .nil
  | _, _, 0, .cons _ t => t
  | _, _, i + 1, .cons q t => .cons q (RepFs.eraseIdx i t)
end

/-- what a slot or a temporary holds: frozen data, or an owned list or dict of frozen data -/
inductive W where
  | v (d : D) | t (xs : List D) | l (xs : List D) | k (kvs : List (D × D))
/-- t: a tuple that is known to have no dict of its own -/
def W.d : W → D
  | .v d => d
  | .t xs => .tup xs
  | .l xs => .lst xs
  | .k kvs => .dic kvs
@[simp] theorem W.d_v (d : D) : (W.v d).d = d := rfl
@[simp] theorem W.d_t (xs : List D) : (W.t xs).d = .tup xs := rfl
@[simp] theorem W.d_l (xs : List D) : (W.l xs).d = .lst xs := rfl
@[simp] theorem W.d_k (xs : List (D × D)) : (W.k xs).d = .dic xs := rfl
abbrev Env := List (Option W)

def RepW (K : PySem.W.Frag) (F H : Hp) (v : V) : W → Prop
  | .v d => RepF K F v d
  | .t ds => ∃ a o vs, v = .ref a ∧ F a = some (.frz o (.tup vs)) ∧ o.dict = none ∧ RepFs K F vs ds
  | .l ds => ∃ a vs, v = .ref a ∧ H a = some (.lst vs) ∧ RepFs K F vs ds
  | .k ds => ∃ a kvs, v = .ref a ∧ H a = some (.dK kvs) ∧ RepKs K F kvs ds
/-- the address that is owned -/
def oA : W → V → Option Addr
  | .v _, _ => none
  | .l _, .ref a => some a
  | .k _, .ref a => some a
  | _, _ => none
/-- slot i owns a -/
def Ow (σ : St) (env : Env) (i : Nat) (a : Addr) : Prop := ∃ w v, env[i]? = some (some w) ∧ σ[i]? = some (some v) ∧ oA w v = some a

/-- F: frozen, R: kept for others, H: the heap; the slots hold what env says; owned things stand apart -/
structure Rp (K : PySem.W.Frag) (F R H : Hp) (σ : St) (env : Env) : Prop where
  fH : Same F H
  rH : Same R H
  fr : ∀ a, F a = none ∨ R a = none
  len : σ.length = env.length
  slot : ∀ (i : Nat) (w : W), env[i]? = some (some w) → ∃ v, σ[i]? = some (some v) ∧ RepW K F H v w
  inj : ∀ (i j : Nat) (a : Addr), Ow σ env i a → Ow σ env j a → i = j
  nF : ∀ (i : Nat) (a : Addr), Ow σ env i a → F a = none ∧ R a = none

/-- a temporary -/
structure Tm (K : PySem.W.Frag) (F R H : Hp) (σ : St) (env : Env) (v : V) (w : W) : Prop where
  rep : RepW K F H v w
  own : ∀ a, oA w v = some a → F a = none ∧ R a = none ∧ ∀ (i : Nat), ¬ Ow σ env i a

/-- an operand: a value, or a slot that owns its object -/
inductive Opd where
  | val (w : W) | ref (i : Nat)
def RepO (K : PySem.W.Frag) (F R H : Hp) (σ : St) (env : Env) (v : V) : Opd → Prop
  | .val w => Tm K F R H σ env v w
  | .ref i => σ[i]? = some (some v)
def oO : Opd → V → Option Addr
  | .val w, v => oA w v
  | .ref _, _ => none

section
variable {K : PySem.W.Frag} {F F' R H H' : Hp} {σ : St} {env : Env} {v : V} {w : W} {a : Addr} {o : Opd}
theorem RepW.get (r : RepW K F H v w) (e : oA w v = some a) : v = .ref a ∧ ∃ o, H a = some o ∧ Mut (some o) := by
  cases w with
  | v d => cases e
  | t d => cases e
  | l ds => obtain ⟨b, vs, rfl, h, _⟩ := r; cases e; exact ⟨rfl, _, h, trivial⟩
  | k ds => obtain ⟨b, vs, rfl, h, _⟩ := r; cases e; exact ⟨rfl, _, h, trivial⟩
/-- what stands there now -/
theorem RepW.view (s : Same F H) (r : RepW K F H v w) : RepF K H v w.d := by
  cases w with
  | v d => exact RepF.mono s r
  | t ds => obtain ⟨a, o, vs, rfl, h, _, q⟩ := r; exact .tup (.inl (.inr ⟨o, s _ _ h⟩)) (RepFs.mono s q)
  | l ds => obtain ⟨a, vs, rfl, h, q⟩ := r; exact .lst h (RepFs.mono s q)
  | k ds => obtain ⟨a, vs, rfl, h, q⟩ := r; exact .dic h (RepKs.mono s q)
theorem RepW.mono (s : Same F F') (hk : ∀ a o, oA w v = some a → H a = some o → H' a = some o) (r : RepW K F H v w) : RepW K F' H' v w := by
  cases w with
  | v d => exact RepF.mono s r
  | t ds => obtain ⟨a, o, vs, rfl, h, n, q⟩ := r; exact ⟨a, o, vs, rfl, s _ _ h, n, RepFs.mono s q⟩
  | l ds => obtain ⟨a, vs, rfl, h, q⟩ := r; exact ⟨a, vs, rfl, hk a _ rfl h, RepFs.mono s q⟩
  | k ds => obtain ⟨a, vs, rfl, h, q⟩ := r; exact ⟨a, vs, rfl, hk a _ rfl h, RepKs.mono s q⟩
theorem Rp.ow (r : Rp K F R H σ env) {i : Nat} (h : Ow σ env i a) : ∃ o, H a = some o ∧ Mut (some o) := by
  obtain ⟨w, v, h1, h2, h3⟩ := h
  obtain ⟨v', h4, h5⟩ := r.slot i w h1
  rw [h2] at h4
  cases h4
  exact (h5.get h3).2
theorem Rp.at (r : Rp K F R H σ env) {i : Nat} (h1 : env[i]? = some (some w)) (h2 : σ[i]? = some (some v)) : RepW K F H v w := by
  obtain ⟨v', h4, h5⟩ := r.slot i w h1
  rw [h2] at h4
  cases h4
  exact h5

/-! ### reading an operand -/
def gt (env : Env) (i : Nat) : Option W := (env[i]?).join
theorem gt_some {env : Env} {i : Nat} {w : W} : gt env i = some w ↔ env[i]? = some (some w) := by
  unfold gt
  cases env[i]? with
  | none => simp
  | some x => simp
def Opd.rdW : Opd → Env → Option W
  | .val w, _ => some w
  | .ref i, env => gt env i
def Opd.rd (o : Opd) (env : Env) : Option D := (o.rdW env).map W.d
theorem rd_ok {d : D} (r : Rp K F R H σ env) (q : RepO K F R H σ env v o) (e : o.rd env = some d) : RepF K H v d := by
  cases o with
  | val w => cases e; exact q.rep.view r.fH
  | ref i =>
    have e : (gt env i).map W.d = some d := e
    cases h : gt env i with
    | none => rw [h] at e; cases e
    | some w =>
      rw [h] at e
      cases e
      exact (r.at (gt_some.mp h) q).view r.fH

/-! ### frames -/
def frm (R H : Hp) : Option Addr → Hp
  | none => R
  | some a => fun b => if b = a then H a else R b
theorem frame_in (r : Rp K F R H σ env) (q : RepO K F R H σ env v o) : Rp K F (frm R H (oO o v)) H σ env := by
  cases e : oO o v with
  | none => exact r
  | some a =>
    cases o with
    | ref i => cases e
    | val w =>
      have q : Tm K F R H σ env v w := q
      obtain ⟨n1, n2, n3⟩ := q.own a e
      refine ⟨r.fH, fun b u h => ?_, fun b => ?_, r.len, r.slot, r.inj, fun i b h => ⟨(r.nF i b h).1, ?_⟩⟩
      · unfold frm at h
        simp only at h
        split at h
        · rename_i hb; rw [hb]; exact h
        · exact r.rH b u h
      · unfold frm
        simp only
        split
        · rename_i hb; rw [hb]; exact .inl n1
        · exact r.fr b
      · unfold frm
        simp only
        rw [if_neg (by rintro rfl; exact n3 i h)]
        exact (r.nF i b h).2
theorem frame_out {env' : Env} (r : Rp K F' (frm R H (oO o v)) H' σ env') (s : Same F F') (q : RepO K F R H σ env v o) : Rp K F' R H' σ env' ∧ RepO K F' R H' σ env' v o := by
  cases o with
  | ref i => exact ⟨r, q⟩
  | val w =>
    have q : Tm K F R H σ env v w := q
    cases e : oA w v with
    | none =>
      have e' : oO (.val w) v = none := e
      rw [e'] at r
      refine ⟨r, (⟨q.rep.mono s (fun a o z => by rw [e] at z; cases z), fun a z => by rw [e] at z; cases z⟩ : Tm K F' R H' σ env' v w)⟩
    | some a =>
      have e' : oO (.val w) v = some a := e
      rw [e'] at r
      obtain ⟨n1, n2, n3⟩ := q.own a e
      obtain ⟨_, u, hu, _⟩ := q.rep.get e
      have fa : frm R H (some a) a = some u := by unfold frm; simp only [if_true]; exact hu
      have fb : ∀ b, b ≠ a → frm R H (some a) b = R b := fun b hb => by unfold frm; simp only; rw [if_neg hb]
      have nR : ∀ b, frm R H (some a) b = none → R b = none := fun b hb => by
        by_cases z : b = a
        · rw [z]; exact n2
        · rw [← fb b z]; exact hb
      have sR : ∀ b o, R b = some o → frm R H (some a) b = some o := fun b o hb => by
        rw [fb b (by rintro rfl; rw [n2] at hb; cases hb)]; exact hb
      refine ⟨⟨r.fH, fun b o h => r.rH b o (sR b o h), fun b => (r.fr b).imp id (nR b), r.len, r.slot, r.inj, fun i b h => ⟨(r.nF i b h).1, nR b (r.nF i b h).2⟩⟩,
        (⟨q.rep.mono s fun b o z hb => ?_, fun b z => ?_⟩ : Tm K F' R H' σ env' v w)⟩
      · rw [e] at z
        cases z
        exact r.rH _ _ (by rw [fa, ← hu]; exact hb)
      · rw [e] at z
        cases z
        refine ⟨?_, n2, fun i h => ?_⟩
        · rcases r.fr a with z | z
          · exact z
          · rw [fa] at z; cases z
        · have z := (r.nF i a h).2
          rw [fa] at z; cases z
theorem RepO.less {b : Option Addr} {R1 : Hp} (q : RepO K F R1 H σ env v o) (hR : ∀ b, R1 b = none → R b = none) : RepO K F R H σ env v o := by
  cases o with
  | ref i => exact q
  | val w => exact (⟨Tm.rep q, fun a e => let ⟨h1, h2, h3⟩ := Tm.own q a e; ⟨h1, hR a h2, h3⟩⟩ : Tm K F R H σ env v w)
theorem frm_none {b : Addr} {p : Option Addr} (q : RepO K F R H σ env v o) (h : frm R H (oO o v) b = none) : R b = none ∧ oO o v ≠ some b := by
  cases e : oO o v with
  | none => rw [e] at h; exact ⟨h, fun z => nomatch z⟩
  | some a =>
    rw [e] at h
    cases o with
    | ref i => cases e
    | val w =>
      obtain ⟨n1, n2, n3⟩ := Tm.own (show Tm K F R H σ env v w from q) a e
      obtain ⟨_, u, hu, _⟩ := RepW.get (Tm.rep (show Tm K F R H σ env v w from q)) e
      unfold frm at h
      simp only at h
      split at h
      · rw [hu] at h; cases h
      · rename_i hb
        exact ⟨h, fun z => hb (Option.some.inj z).symm⟩

/-! ### the operands of a call, of a display -/
def ownL : List V → List Opd → List Addr
  | v :: vs, o :: os => match oO o v with
    | some a => a :: ownL vs os
    | none => ownL vs os
  | _, _ => []
inductive RepOs (K : PySem.W.Frag) (F R H : Hp) (σ : St) (env : Env) : List V → List Opd → Prop
  | nil : RepOs K F R H σ env [] []
  | cons {v : V} {o : Opd} {vs : List V} {os : List Opd} : RepO K F R H σ env v o → (∀ a, oO o v = some a → a ∉ ownL vs os) → RepOs K F R H σ env vs os → RepOs K F R H σ env (v :: vs) (o :: os)
theorem RepOs.length : ∀ {vs : List V} {os : List Opd}, RepOs K F R H σ env vs os → vs.length = os.length
  | _, _, .nil => rfl
  | _, _, .cons _ _ t => congrArg (· + 1) (RepOs.length t)
theorem RepOs.own : ∀ {vs : List V} {os : List Opd}, RepOs K F R H σ env vs os → ∀ a ∈ ownL vs os, F a = none ∧ R a = none ∧ (∀ (i : Nat), ¬ Ow σ env i a) ∧ ∃ o, H a = some o ∧ Mut (some o)
  | _, _, .nil, a, h => by cases h
  | v :: vs, o :: os, .cons q n t, a, h => by
    unfold ownL at h
    split at h
    · rename_i b hb
      rcases List.mem_cons.mp h with rfl | h
      · cases o with
        | ref i => cases hb
        | val w =>
          obtain ⟨n1, n2, n3⟩ := Tm.own (show Tm K F R H σ env v w from q) a hb
          exact ⟨n1, n2, n3, (RepW.get (Tm.rep (show Tm K F R H σ env v w from q)) hb).2⟩
      · exact RepOs.own t a h
    · exact RepOs.own t a h
theorem RepOs.less {R1 : Hp} (hR : ∀ b, R1 b = none → R b = none) : ∀ {vs : List V} {os : List Opd}, RepOs K F R1 H σ env vs os → RepOs K F R H σ env vs os
  | _, _, .nil => .nil
  | _, _, .cons q n t => .cons (RepO.less (b := none) q hR) n (RepOs.less hR t)
end
end PD

set_option Elab.async false
set_option linter.all false
set_option maxRecDepth 100000
/-! P2: freezing, new objects, stores; the readings tOf, tbOf, taOf, tsOf; two operands, argument lists. -/
namespace PD
open PySem PySem.Spec L2
open PyProof.Rows hiding St

section
variable {K : PySem.W.Frag} {F F' R H H' : Hp} {σ : St} {env env' : Env} {v : V} {w : W} {a : Addr} {o : Opd} {d : D}
theorem frm_at {A B : Hp} {o : Option Addr} {b : Addr} (h : o ≠ some b) : frm A B o b = A b := by
  cases o with
  | none => rfl
  | some a => unfold frm; simp only; rw [if_neg (by rintro rfl; exact h rfl)]
theorem frm_self {A B : Hp} {b : Addr} : frm A B (some b) b = B b := by unfold frm; simp only [if_true]
theorem Rp.grow (r : Rp K F R H σ env) (s : Same H H') : Rp K F R H' σ env :=
  ⟨r.fH.trans s, r.rH.trans s, r.fr, r.len, fun i w h => let ⟨v, h1, h2⟩ := r.slot i w h; ⟨v, h1, h2.mono (Same.refl F) fun a o _ z => s a o z⟩, r.inj, r.nF⟩
theorem Rp.growF (r : Rp K F R H σ env) (s : Same F F') (sH : Same F' H) (n : ∀ a, F' a = none ∨ (F a ≠ none) ∨ (R a = none ∧ ∀ (i : Nat), ¬ Ow σ env i a)) : Rp K F' R H σ env := by
  refine ⟨sH, r.rH, fun a => ?_, r.len, fun i w h => let ⟨v, h1, h2⟩ := r.slot i w h; ⟨v, h1, h2.mono s fun a o _ z => z⟩, r.inj, fun i a h => ⟨?_, (r.nF i a h).2⟩⟩
  · rcases n a with z | z | z
    · exact .inl z
    · exact (r.fr a).imp (fun q => absurd q z) id
    · exact .inr z.1
  · rcases n a with z | z | z
    · exact z
    · exact absurd (r.nF i a h).1 z
    · exact absurd h (z.2 i)
theorem Ow.of_set {i j : Nat} {b : Addr} (h : Ow σ (env.set i (some (.v d))) j b) : j ≠ i ∧ Ow σ env j b := by
  obtain ⟨w, v, h1, h2, h3⟩ := h
  by_cases e : i = j
  · subst e
    by_cases hi : i < env.length
    · rw [List.getElem?_set_self hi] at h1; cases h1; cases h3
    · rw [List.getElem?_eq_none (by simpa using hi)] at h1; cases h1
  · rw [List.getElem?_set_ne e] at h1
    exact ⟨fun z => e z.symm, w, v, h1, h2, h3⟩

theorem frzF (s : Same F H) (r : RepW K F H v w) (n : ∀ a, oA w v = some a → F a = none) : Same F (frm F H (oA w v)) ∧ Same (frm F H (oA w v)) H ∧ RepF K (frm F H (oA w v)) v w.d := by
  have s1 : Same F (frm F H (oA w v)) := fun b o h => by rw [frm_at (fun z => by rw [n b z] at h; cases h)]; exact h
  refine ⟨s1, fun b o h => ?_, ?_⟩
  · by_cases z : oA w v = some b
    · rw [z, frm_self] at h; exact h
    · rw [frm_at z] at h; exact s b o h
  · cases w with
    | v d => exact RepF.mono s1 r
    | t ds => obtain ⟨a, o, vs, rfl, h, _, q⟩ := r; exact .tup (.inl (.inr ⟨o, s1 _ _ h⟩)) (RepFs.mono s1 q)
    | l ds => obtain ⟨a, vs, rfl, h, q⟩ := r; exact .lst (by rw [show oA (.l ds) (.ref a) = some a from rfl, frm_self]; exact h) (RepFs.mono s1 q)
    | k ds => obtain ⟨a, vs, rfl, h, q⟩ := r; exact .dic (by rw [show oA (.k ds) (.ref a) = some a from rfl, frm_self]; exact h) (RepKs.mono s1 q)

def Opd.frz : Opd → Env → Option (D × Env)
  | .val w, env => some (w.d, env)
  | .ref i, env => (gt env i).map fun w => (w.d, env.set i (some (.v w.d)))
def frzs : List Opd → Env → Option (List D × Env)
  | [], env => some ([], env)
  | o :: os, env => (o.frz env).bind fun p => (frzs os p.2).map fun q => (p.1 :: q.1, q.2)

theorem RepOs.keep {F' : Hp} {env' : Env} (s : Same F F') (sH : Same F' H) (ho : ∀ (j : Nat) (b : Addr), Ow σ env' j b → Ow σ env j b) : ∀ {vs : List V} {os : List Opd}, (∀ b ∈ ownL vs os, F' b = none) →
    RepOs K F R H σ env vs os → RepOs K F' R H σ env' vs os
  | _, _, _, .nil => .nil
  | v :: vs, o :: os, n, .cons q d t => by
    have n' : ∀ b ∈ ownL vs os, F' b = none := fun b hb => n b (by unfold ownL; split; exact List.mem_cons_of_mem _ hb; exact hb)
    refine .cons ?_ d (RepOs.keep s sH ho n' t)
    cases o with
    | ref i => exact q
    | val w =>
      have q : Tm K F R H σ env v w := q
      exact (⟨q.rep.mono s fun _ _ _ z => z, fun b e => ⟨n b (by unfold ownL; rw [show oO (.val w) v = some b from e]; exact List.mem_cons_self), (q.own b e).2.1, fun i h => (q.own b e).2.2 i (ho i b h)⟩⟩ : Tm K F' R H σ env' v w)

theorem frz_ok (r : Rp K F R H σ env) (q : RepO K F R H σ env v o) (e : o.frz env = some (d, env')) : ∃ F', Same F F' ∧ Rp K F' R H σ env' ∧ RepF K F' v d ∧
    ∀ vs os, (∀ a, oO o v = some a → a ∉ ownL vs os) → RepOs K F R H σ env vs os → RepOs K F' R H σ env' vs os := by
  cases o with
  | val w =>
    cases e
    have q : Tm K F R H σ env v w := q
    obtain ⟨s1, s2, rf⟩ := frzF r.fH q.rep fun a z => (q.own a z).1
    refine ⟨frm F H (oA w v), s1, r.growF s1 s2 fun a => ?_, rf, fun vs os n t => t.keep s1 s2 (fun _ _ h => h) fun b hb => ?_⟩
    · by_cases z : oA w v = some a
      · exact .inr (.inr ⟨(q.own a z).2.1, (q.own a z).2.2⟩)
      · rw [frm_at z]
        cases h : F a with
        | none => exact .inl rfl
        | some u => exact .inr (.inl (by simp))
    · have nb : oA w v ≠ some b := fun z => n b z hb
      rw [frm_at nb]
      exact (t.own b hb).1
  | ref i =>
    have e : (gt env i).map (fun w => (w.d, env.set i (some (.v w.d)))) = some (d, env') := e
    cases h : gt env i with
    | none => rw [h] at e; cases e
    | some w =>
      rw [h] at e
      cases e
      have h1 := gt_some.mp h
      have h2 : σ[i]? = some (some v) := q
      have rw' := r.at h1 h2
      have ow : ∀ a, oA w v = some a → Ow σ env i a := fun a z => ⟨w, v, h1, h2, z⟩
      obtain ⟨s1, s2, rf⟩ := frzF r.fH rw' fun a z => (r.nF i a (ow a z)).1
      have hil : i < env.length := (List.getElem?_eq_some_iff.mp h1).1
      refine ⟨frm F H (oA w v), s1, ⟨s2, r.rH, fun a => ?_, by rw [List.length_set]; exact r.len, fun j w' hj => ?_, fun j k a h3 h4 => r.inj j k a (Ow.of_set h3).2 (Ow.of_set h4).2, fun j a hj => ?_⟩, rf, fun vs os _ t => t.keep s1 s2 (fun j b hj => (Ow.of_set hj).2) fun b hb => ?_⟩
      · by_cases z : oA w v = some a
        · exact .inr (r.nF i a (ow a z)).2
        · rw [frm_at z]; exact r.fr a
      · by_cases ij : i = j
        · subst ij
          rw [List.getElem?_set_self hil] at hj
          cases hj
          exact ⟨v, h2, rf⟩
        · rw [List.getElem?_set_ne ij] at hj
          obtain ⟨v', h5, h6⟩ := r.slot j w' hj
          exact ⟨v', h5, h6.mono s1 fun _ _ _ z => z⟩
      · obtain ⟨ji, hj⟩ := Ow.of_set hj
        obtain ⟨n1, n2⟩ := r.nF j a hj
        refine ⟨?_, n2⟩
        rw [frm_at fun z => ji (r.inj j i a hj (ow a z))]
        exact n1
      · obtain ⟨n1, n2, n3, _⟩ := t.own b hb
        rw [frm_at fun z => n3 i (ow b z)]
        exact n1
theorem frzs_ok : ∀ {vs : List V} {os : List Opd} {F : Hp} {env env' : Env} {ds : List D}, Rp K F R H σ env → RepOs K F R H σ env vs os → frzs os env = some (ds, env') → ∃ F', Same F F' ∧ Rp K F' R H σ env' ∧ RepFs K F' vs ds
  | _, _, F, env, env', ds, r, .nil, e => by cases e; exact ⟨F, Same.refl F, r, .nil⟩
  | v :: vs, o :: os, F, env, env', ds, r, .cons q n t, e => by
    unfold frzs at e
    cases h : o.frz env with
    | none => rw [h] at e; cases e
    | some p =>
      obtain ⟨d, e1⟩ := p
      rw [h] at e
      simp only [Option.bind_some] at e
      cases h2 : frzs os e1 with
      | none => rw [h2] at e; cases e
      | some p2 =>
        obtain ⟨ds', e2⟩ := p2
        rw [h2] at e
        simp only [Option.map_some, Option.some.injEq, Prod.mk.injEq] at e
        obtain ⟨rfl, rfl⟩ := e
        obtain ⟨F1, s1, r1, q1, k1⟩ := frz_ok r q h
        obtain ⟨F2, s2, r2, q2⟩ := frzs_ok r1 (k1 vs os n t) h2
        exact ⟨F2, s1.trans s2, r2, .cons (RepF.mono s2 q1) q2⟩

/-! ### new objects -/
theorem Same.upd {p : Addr} {u : HO} (hp : H p = none) : Same H (upd H p u) := fun b o e => by rw [upd_ne (ne_of_none e hp)]; exact e
theorem new_lst {vs : List V} {ds : List D} {p : Addr} (r : Rp K F R H σ env) (q : RepFs K F vs ds) (hp : H p = none) : Rp K F R (upd H p (.lst vs)) σ env ∧ Tm K F R (upd H p (.lst vs)) σ env (.ref p) (.l ds) := by
  refine ⟨r.grow (Same.upd hp), ⟨⟨p, vs, rfl, upd_same, q⟩, fun a e => ?_⟩⟩
  cases e
  refine ⟨r.fH.free hp, r.rH.free hp, fun i h => ?_⟩
  obtain ⟨u, hu, _⟩ := r.ow h
  rw [hp] at hu; cases hu
theorem new_dic {kvs : List (Key × V)} {ds : List (D × D)} {p : Addr} (r : Rp K F R H σ env) (q : RepKs K F kvs ds) (hp : H p = none) : Rp K F R (upd H p (.dK kvs)) σ env ∧ Tm K F R (upd H p (.dK kvs)) σ env (.ref p) (.k ds) := by
  refine ⟨r.grow (Same.upd hp), ⟨⟨p, kvs, rfl, upd_same, q⟩, fun a e => ?_⟩⟩
  cases e
  refine ⟨r.fH.free hp, r.rH.free hp, fun i h => ?_⟩
  obtain ⟨u, hu, _⟩ := r.ow h
  rw [hp] at hu; cases hu
theorem new_tup {vs : List V} {ds : List D} {p : Addr} (r : Rp K F R H σ env) (q : RepFs K F vs ds) (hp : H p = none) : Same F (upd F p (.tup vs)) ∧ Rp K (upd F p (.tup vs)) R (upd H p (.tup vs)) σ env ∧ RepF K (upd F p (.tup vs)) (.ref p) (.tup ds) := by
  have hF := r.fH.free hp
  have s1 : Same F (upd F p (.tup vs)) := Same.upd hF
  refine ⟨s1, (r.grow (Same.upd hp)).growF s1 (fun b o e => ?_) (fun a => ?_), .tup (SqT.of upd_same) (RepFs.mono s1 q)⟩
  · by_cases z : b = p
    · subst z; rw [upd_same] at e ⊢; exact e
    · rw [upd_ne z] at e ⊢; exact r.fH b o e
  · by_cases z : a = p
    · subst z
      refine .inr (.inr ⟨r.rH.free hp, fun i h => ?_⟩)
      obtain ⟨u, hu, _⟩ := r.ow h
      rw [hp] at hu; cases hu
    · rw [upd_ne z]
      cases h : F a with
      | none => exact .inl rfl
      | some u => exact .inr (.inl (by simp))

/-- a tuple just made, its object told -/
theorem new_tupX {vs : List V} {ds : List D} {p : Addr} {ob : Obj} (r : Rp K F R H σ env) (q : RepFs K F vs ds) (hp : H p = none) (hd : ob.dict = none) :
    Same F (upd F p (.frz ob (.tup vs))) ∧ Rp K (upd F p (.frz ob (.tup vs))) R (upd H p (.frz ob (.tup vs))) σ env ∧ RepW K (upd F p (.frz ob (.tup vs))) (upd H p (.frz ob (.tup vs))) (.ref p) (.t ds) := by
  have hF := r.fH.free hp
  have s1 : Same F (upd F p (.frz ob (.tup vs))) := Same.upd hF
  refine ⟨s1, (r.grow (Same.upd hp)).growF s1 (fun b o e => ?_) (fun a => ?_), ⟨p, ob, vs, rfl, upd_same, hd, RepFs.mono s1 q⟩⟩
  · by_cases z : b = p
    · subst z; rw [upd_same] at e ⊢; exact e
    · rw [upd_ne z] at e ⊢; exact r.fH b o e
  · by_cases z : a = p
    · subst z
      refine .inr (.inr ⟨r.rH.free hp, fun i h => ?_⟩)
      obtain ⟨u, hu, _⟩ := r.ow h
      rw [hp] at hu; cases hu
    · rw [upd_ne z]
      cases h : F a with
      | none => exact .inl rfl
      | some u => exact .inr (.inl (by simp))

/-! ### stores -/
theorem Ow.of_put {i j : Nat} {b : Addr} (h : Ow (σ.set i (some v)) (env.set i (some w)) j b) : (j = i ∧ oA w v = some b) ∨ (j ≠ i ∧ Ow σ env j b) := by
  obtain ⟨w', v', h1, h2, h3⟩ := h
  by_cases e : i = j
  · subst e
    by_cases hi : i < env.length
    · rw [List.getElem?_set_self hi] at h1
      by_cases hi' : i < σ.length
      · rw [List.getElem?_set_self hi'] at h2
        cases h1; cases h2
        exact .inl ⟨rfl, h3⟩
      · rw [List.getElem?_eq_none (by simpa using hi')] at h2; cases h2
    · rw [List.getElem?_eq_none (by simpa using hi)] at h1; cases h1
  · rw [List.getElem?_set_ne e] at h1 h2
    exact .inr ⟨fun z => e z.symm, w', v', h1, h2, h3⟩
theorem Rp.put {i : Nat} (r : Rp K F R H σ env) (t : Tm K F R H σ env v w) : Rp K F R H (σ.set i (some v)) (env.set i (some w)) := by
  refine ⟨r.fH, r.rH, r.fr, by rw [List.length_set, List.length_set]; exact r.len, fun j w' h => ?_, fun j k a h1 h2 => ?_, fun j a h => ?_⟩
  · by_cases e : i = j
    · subst e
      have hi : i < env.length := by
        by_cases hi : i < env.length
        · exact hi
        · rw [List.getElem?_eq_none (by simpa using hi)] at h; cases h
      rw [List.getElem?_set_self hi] at h
      cases h
      exact ⟨v, List.getElem?_set_self (by rw [r.len]; exact hi), t.rep⟩
    · rw [List.getElem?_set_ne e] at h ⊢
      exact r.slot j w' h
  · rcases Ow.of_put h1 with ⟨rfl, z1⟩ | ⟨n1, z1⟩
    · rcases Ow.of_put h2 with ⟨rfl, z2⟩ | ⟨n2, z2⟩
      · rfl
      · exact absurd z2 ((t.own a z1).2.2 k)
    · rcases Ow.of_put h2 with ⟨rfl, z2⟩ | ⟨n2, z2⟩
      · exact absurd z1 ((t.own a z2).2.2 j)
      · exact r.inj j k a z1 z2
  · rcases Ow.of_put h with ⟨rfl, z1⟩ | ⟨n1, z1⟩
    · exact ⟨(t.own a z1).1, (t.own a z1).2.1⟩
    · exact r.nF j a z1
/-- a slot is forgotten -/
theorem Ow.of_none {i j : Nat} {b : Addr} (h : Ow σ (env.set i none) j b) : j ≠ i ∧ Ow σ env j b := by
  obtain ⟨w, v, h1, h2, h3⟩ := h
  by_cases e : i = j
  · subst e
    by_cases hi : i < env.length
    · rw [List.getElem?_set_self hi] at h1; cases h1
    · rw [List.getElem?_eq_none (by simpa using hi)] at h1; cases h1
  · rw [List.getElem?_set_ne e] at h1
    exact ⟨fun z => e z.symm, w, v, h1, h2, h3⟩
theorem Rp.drop {i : Nat} (r : Rp K F R H σ env) : Rp K F R H σ (env.set i none) := by
  refine ⟨r.fH, r.rH, r.fr, by rw [List.length_set]; exact r.len, fun j w' h => ?_, fun j k a h1 h2 => r.inj j k a (Ow.of_none h1).2 (Ow.of_none h2).2, fun j a h => r.nF j a (Ow.of_none h).2⟩
  by_cases e : i = j
  · subst e
    by_cases hi : i < env.length
    · rw [List.getElem?_set_self hi] at h; cases h
    · rw [List.getElem?_eq_none (by simpa using hi)] at h; cases h
  · rw [List.getElem?_set_ne e] at h
    exact r.slot j w' h
/-- what a slot owns is taken out of it -/
theorem Rp.move {i : Nat} (r : Rp K F R H σ env) (h1 : env[i]? = some (some w)) (h2 : σ[i]? = some (some v)) : Tm K F R H σ (env.set i none) v w :=
  ⟨r.at h1 h2, fun a e => ⟨(r.nF i a ⟨w, v, h1, h2, e⟩).1, (r.nF i a ⟨w, v, h1, h2, e⟩).2, fun j h => (Ow.of_none h).1 (r.inj j i a (Ow.of_none h).2 ⟨w, v, h1, h2, e⟩)⟩⟩
theorem Tm.less {env' : Env} {σ' : St} (t : Tm K F R H σ env v w) (h : ∀ (j : Nat) (b : Addr), Ow σ' env' j b → Ow σ env j b) : Tm K F R H σ' env' v w :=
  ⟨t.rep, fun a e => ⟨(t.own a e).1, (t.own a e).2.1, fun i z => (t.own a e).2.2 i (h i a z)⟩⟩
theorem Tm.frozen (r : RepF K F v d) : Tm K F R H σ env v (.v d) := ⟨r, fun _ e => nomatch e⟩

/-- the object of slot i is changed -/
theorem Rp.chg {i : Nat} {u : HO} {w' : W} (r : Rp K F R H σ env) (h1 : env[i]? = some (some w)) (h2 : σ[i]? = some (some (.ref a))) (h3 : oA w (.ref a) = some a) (q : RepW K F (upd H a u) (.ref a) w') :
    Rp K F R (upd H a u) σ (env.set i (some w')) := by
  have ow : Ow σ env i a := ⟨w, _, h1, h2, h3⟩
  obtain ⟨n1, n2⟩ := r.nF i a ow
  have hil : i < env.length := (List.getElem?_eq_some_iff.mp h1).1
  have sk : ∀ b o, b ≠ a → H b = some o → upd H a u b = some o := fun b o hb z => by rw [upd_ne hb]; exact z
  have back : ∀ j b, Ow σ (env.set i (some w')) j b → Ow σ env j b := fun j b ⟨x, y, z1, z2, z3⟩ => by
    by_cases e : i = j
    · subst e
      rw [List.getElem?_set_self hil] at z1
      cases z1
      rw [h2] at z2
      cases z2
      have hb : oA w' (.ref a) = some b := z3
      have : b = a := by cases w' <;> first | (cases hb; done) | (cases hb; rfl)
      subst this
      exact ow
    · rw [List.getElem?_set_ne e] at z1
      exact ⟨x, y, z1, z2, z3⟩
  refine ⟨fun b o z => sk b o (by rintro rfl; rw [n1] at z; cases z) (r.fH b o z), fun b o z => sk b o (by rintro rfl; rw [n2] at z; cases z) (r.rH b o z), r.fr, by rw [List.length_set]; exact r.len, fun j x hj => ?_, fun j k b z1 z2 => r.inj j k b (back j b z1) (back k b z2), fun j b z => r.nF j b (back j b z)⟩
  by_cases e : i = j
  · subst e
    rw [List.getElem?_set_self hil] at hj
    cases hj
    exact ⟨_, h2, q⟩
  · rw [List.getElem?_set_ne e] at hj
    obtain ⟨y, z1, z2⟩ := r.slot j x hj
    refine ⟨y, z1, z2.mono (Same.refl F) fun b o z3 z4 => sk b o ?_ z4⟩
    rintro rfl
    exact e (r.inj i j b ow ⟨x, y, hj, z1, z3⟩)
end

/-! ### readings -/
abbrev EV := Env → Option (Opd × Env)
abbrev BV := Env → Option (Bool × Env)
abbrev AV := Env → Option (List Opd × Env)
inductive Fl where
  | nx | bk | ct | rt (w : W)
abbrev SV := Env → Option (Fl × Env)
section
variable (K : PySem.W.Frag)
def tOf (f : EV) : TE := fun σ H Q => ∃ F R env o env', Rp K F R H σ env ∧ f env = some (o, env') ∧ ∀ v H' F', Same F F' → Rp K F' R H' σ env' → RepO K F' R H' σ env' v o → Q v H'
def tbOf (f : BV) : TT := fun σ H Q => ∃ F R env b env', Rp K F R H σ env ∧ f env = some (b, env') ∧ ∀ H' F', Same F F' → Rp K F' R H' σ env' → Q b H'
def taOf (f : AV) : TA := fun σ H Q => ∃ F R env os env', Rp K F R H σ env ∧ f env = some (os, env') ∧ ∀ vs H' F', Same F F' → Rp K F' R H' σ env' → RepOs K F' R H' σ env' vs os → Q vs H'
def Fl.to (F R : Hp) (D : Ends) (σ : St) (H : Hp) (env : Env) : Fl → Prop
  | .nx => D.nx σ H
  | .bk => D.bk σ H
  | .ct => D.ct σ H
  | .rt w => ∀ v, Tm K F R H σ env v w → D.rt v H
/-- P: slots that are never assigned -/
def tsOf (P : List Nat) (f : SV) : TS := fun D σ H => ∃ F R env fl env', Rp K F R H σ env ∧ f env = some (fl, env') ∧
  ∀ σ' H' F', Same F F' → Rp K F' R H' σ' env' → (∀ j ∈ P, σ'[j]? = σ[j]?) → fl.to K F' R D σ' H' env'
end
section
variable {X : Cx} {e : Expr} {es : List Expr} {st : Stmt} {sts : List Stmt}
theorem _root_.L2.PE.imp {t t' : TE} (h : PE X e t) (k : ∀ σ H Q, t' σ H Q → t σ H Q) : PE X e t' := ⟨fun p s σ H Q I q => h.run p s σ H Q I (k σ H Q q)⟩
theorem _root_.L2.PT.imp {t t' : TT} (h : PT X e t) (k : ∀ σ H Q, t' σ H Q → t σ H Q) : PT X e t' := ⟨fun p s σ H Q I q => h.run p s σ H Q I (k σ H Q q)⟩
theorem _root_.L2.PW.imp {t t' : TT} (h : PW X e t) (k : ∀ σ H Q, t' σ H Q → t σ H Q) : PW X e t' := ⟨fun wh p s σ H Q I q => h.run wh p s σ H Q I (k σ H Q q)⟩
theorem _root_.L2.PA.imp {t t' : TA} (h : PA X es t) (k : ∀ σ H Q, t' σ H Q → t σ H Q) : PA X es t' := ⟨fun po p s σ H Q I q => h.run po p s σ H Q I (k σ H Q q)⟩
theorem _root_.L2.PS.imp {t t' : TS} (h : PS X st t) (k : ∀ D σ H, t' D σ H → t D σ H) : PS X st t' := ⟨fun p s σ H D I q => h.run p s σ H D I (k D σ H q)⟩
theorem _root_.L2.PSs.imp {t t' : TS} (h : PSs X sts t) (k : ∀ D σ H, t' D σ H → t D σ H) : PSs X sts t' := ⟨fun p s σ H D I q => h.run p s σ H D I (k D σ H q)⟩
end

section
variable {K : PySem.W.Frag} {F F' R H H' : Hp} {σ : St} {env env' : Env} {v : V} {w : W} {a : Addr} {o : Opd} {d : D}
theorem RepO.weak {F1 : Hp} {env1 : Env} (q : RepO K F R H σ env v o) (r : Rp K F1 (frm R H (oO o v)) H' σ env1) (s : Same F F1) : RepO K F1 R H' σ env1 v o := (frame_out r s q).2
/-- two operands, from the left -/
theorem two {fa fb : EV} {env1 env2 : Env} {oa ob : Opd} {Q2 : V → V → Hp → Prop} (r : Rp K F R H σ env) (h1 : fa env = some (oa, env1)) (h2 : fb env1 = some (ob, env2))
    (k : ∀ x y H2 F2, Same F F2 → Rp K F2 R H2 σ env2 → RepOs K F2 R H2 σ env2 [x, y] [oa, ob] → Q2 x y H2) : tOf K fa σ H fun x H1 => tOf K fb σ H1 fun y H2 => Q2 x y H2 := by
  refine ⟨F, R, env, oa, env1, r, h1, fun x H1 F1 s1 r1 q1 => ?_⟩
  refine ⟨F1, frm R H1 (oO oa x), env1, ob, env2, frame_in r1 q1, h2, fun y H2 F2 s2 r2 q2 => ?_⟩
  obtain ⟨r3, q3⟩ := frame_out r2 s2 q1
  refine k x y H2 F2 (s1.trans s2) r3 (.cons q3 (fun a ea hm => ?_) (.cons (q2.less (b := none) fun b hb => (frm_none (p := none) q1 hb).1) (fun a _ hm => by cases hm) .nil))
  have : oO ob y = some a := by
    unfold ownL at hm
    split at hm
    · rename_i b hb
      rcases List.mem_cons.mp hm with rfl | hm
      · exact hb
      · cases hm
    · cases hm
  cases ob with
  | ref i => cases this
  | val w =>
    have t : Tm K F2 (frm R H1 (oO oa x)) H2 σ env2 y w := q2
    exact (frm_none (p := none) q1 (t.own a this).2.1).2 ea
theorem RepOs.one (q : RepO K F R H σ env v o) : RepOs K F R H σ env [v] [o] := .cons q (fun a _ hm => by cases hm) .nil
/-- the operands that follow, with one kept aside -/
theorem RepOs.behind {vs : List V} {os : List Opd} {H1 F1 : Hp} {env1 env2 : Env} {x : V} {oa : Opd} (q1 : RepO K F1 R H1 σ env1 x oa) {F2 H2 : Hp} (s2 : Same F1 F2) (r2 : Rp K F2 (frm R H1 (oO oa x)) H2 σ env2) (q2 : RepOs K F2 (frm R H1 (oO oa x)) H2 σ env2 vs os) :
    RepOs K F2 R H2 σ env2 (x :: vs) (oa :: os) := by
  obtain ⟨r3, q3⟩ := frame_out r2 s2 q1
  refine .cons q3 (fun a ea hm => ?_) (q2.less fun b hb => (frm_none (p := none) q1 hb).1)
  exact (frm_none (p := none) q1 (q2.own a hm).2.1).2 ea

section
variable {X : Cx} {e : Expr} {es : List Expr} {pos : Pos}
def argsN : AV := fun env => some ([], env)
def argsC (f : EV) (g : AV) : AV := fun env => (f env).bind fun p => (g p.2).map fun q => (p.1 :: q.1, q.2)
theorem pad_nil : PA X [] (taOf X.K argsN) := pa_nil.imp fun σ H Q ⟨F, R, env, os, env', r, e, k⟩ => by
  cases e
  exact k [] H F (Same.refl F) r .nil
theorem argsC_some {f : EV} {g : AV} {env env' : Env} {os : List Opd} (h : argsC f g env = some (os, env')) : ∃ o e1 os', f env = some (o, e1) ∧ g e1 = some (os', env') ∧ os = o :: os' := by
  unfold argsC at h
  cases h1 : f env with
  | none => rw [h1] at h; cases h
  | some p =>
    obtain ⟨o, e1⟩ := p
    rw [h1] at h
    simp only [Option.bind_some] at h
    cases h2 : g e1 with
    | none => rw [h2] at h; cases h
    | some q =>
      obtain ⟨os', e2⟩ := q
      rw [h2] at h
      simp only [Option.map_some, Option.some.injEq, Prod.mk.injEq] at h
      obtain ⟨rfl, rfl⟩ := h
      exact ⟨o, e1, os', rfl, h2, rfl⟩
theorem pad_cons {f : EV} {g : AV} (ha : PE X e (tOf X.K f)) (hr : PA X es (taOf X.K g)) (hs : starEach (e :: es) X.env = (false, eval e X.env) :: starEach es X.env) : PA X (e :: es) (taOf X.K (argsC f g)) :=
  (pa_cons ha hr hs).imp fun σ H Q ⟨F, R, env, os, env', r, h, k⟩ => by
    obtain ⟨o, e1, os', h1, h2, rfl⟩ := argsC_some h
    refine ⟨F, R, env, o, e1, r, h1, fun x H1 F1 s1 r1 q1 => ?_⟩
    refine ⟨F1, frm R H1 (oO o x), e1, os', env', frame_in r1 q1, h2, fun vs H2 F2 s2 r2 q2 => ?_⟩
    exact k (x :: vs) H2 F2 (s1.trans s2) (frame_out r2 s2 q1).1 (q2.behind q1 s2 r2)
end
end
end PD

set_option Elab.async false
set_option linter.all false
set_option maxRecDepth 100000
/-! P3: operators by values: what they ask of data. -/
namespace PD
open PySem PySem.Spec L2
open PyProof.Rows hiding St

section
variable {K : PySem.W.Frag} {F F' R H H' : Hp} {σ : St} {env env' : Env} {v : V} {w : W} {a : Addr} {o : Opd} {d : D}
/-- what an operand shows now: its own object by H, what is in it by F -/
def View (K : PySem.W.Frag) (F H : Hp) (v : V) : D → Prop
  | .lst ds => ∃ a vs, v = .ref a ∧ H a = some (.lst vs) ∧ RepFs K F vs ds
  | .scr ds => ∃ a vs, v = .ref a ∧ SqL K H a vs ∧ RepFs K F vs ds
  | .tup ds => ∃ a vs, v = .ref a ∧ SqT K H a vs ∧ SqT K F a vs ∧ RepFs K F vs ds
  | .dic ks => ∃ a kvs, v = .ref a ∧ H a = some (.dK kvs) ∧ RepKs K F kvs ks
  | d => RepF K F v d
theorem RepF.view (s : Same F H) (r : RepF K F v d) : View K F H v d := by
  cases r with
  | lst h q => exact ⟨_, _, rfl, s _ _ h, q⟩
  | scr h q => exact ⟨_, _, rfl, Same.seq s h, q⟩
  | tup h q => exact ⟨_, _, rfl, Same.sqT s h, h, q⟩
  | dic h q => exact ⟨_, _, rfl, s _ _ h, q⟩
  | non => exact .non
  | bl b => exact .bl b
  | int i => exact .int i
  | str z h => exact .str z h
theorem RepW.viewD (s : Same F H) (r : RepW K F H v w) : View K F H v w.d := by
  cases w with
  | v d => exact RepF.view s r
  | t ds => obtain ⟨a, o, vs, rfl, h, _, q⟩ := r; exact ⟨a, vs, rfl, .inl (.inr ⟨o, s _ _ h⟩), .inl (.inr ⟨o, h⟩), q⟩
  | l ds => obtain ⟨a, vs, rfl, h, q⟩ := r; exact ⟨a, vs, rfl, h, q⟩
  | k ds => obtain ⟨a, vs, rfl, h, q⟩ := r; exact ⟨a, vs, rfl, h, q⟩
theorem rdW_ok (r : Rp K F R H σ env) (q : RepO K F R H σ env v o) (e : o.rdW env = some w) : RepW K F H v w := by
  cases o with
  | val w => cases e; exact q.rep
  | ref i => exact r.at (gt_some.mp e) q
theorem view_ok (r : Rp K F R H σ env) (q : RepO K F R H σ env v o) (e : o.rd env = some d) : View K F H v d := by
  unfold Opd.rd at e
  cases h : o.rdW env with
  | none => rw [h] at e; cases e
  | some w => rw [h] at e; cases e; exact (rdW_ok r q h).viewD r.fH
theorem View.rep (s : Same F H) (r : View K F H v d) : RepF K H v d := by
  cases d with
  | lst ds => obtain ⟨a, vs, rfl, h, q⟩ := r; exact .lst h (RepFs.mono s q)
  | scr ds => obtain ⟨a, vs, rfl, h, q⟩ := r; exact .scr h (RepFs.mono s q)
  | tup ds => obtain ⟨a, vs, rfl, h, _, q⟩ := r; exact .tup h (RepFs.mono s q)
  | dic ks => obtain ⟨a, vs, rfl, h, q⟩ := r; exact .dic h (RepKs.mono s q)
  | non => exact RepF.mono s r
  | bl b => exact RepF.mono s r
  | int i => exact RepF.mono s r
  | str z => exact RepF.mono s r
theorem RepF.int_eq {i : Int} (r : RepF K F v (.int i)) : v = .int i := by cases r; rfl
theorem RepF.bl_eq {i : Bool} (r : RepF K F v (.bl i)) : v = .bl i := by cases r; rfl
theorem RepF.non_eq (r : RepF K F v .non) : v = .non := by cases r; rfl
theorem RepF.str_eq {z : List Nat} (r : RepF K F v (.str z)) : v = .str ⟨z.toArray⟩ ∧ okS z := by cases r with | str _ h => exact ⟨rfl, h⟩
end

/-! ### a two-place operation on data -/
def rG (K : PySem.W.Frag) (g : D → D → Option W) : R2 := fun x y H Q => ∃ F R σ env da db w, Rp K F R H σ env ∧ View K F H x da ∧ View K F H y db ∧ g da db = some w ∧
  ∀ v H' F', Same F F' → Rp K F' R H' σ env → Tm K F' R H' σ env v w → Q v H'
def cBin (g : D → D → Option W) (fa fb : EV) : EV := fun env => (fa env).bind fun p => (fb p.2).bind fun q => (p.1.rd q.2).bind fun da => (q.1.rd q.2).bind fun db => (g da db).map fun w => (.val w, q.2)
section
variable {X : Cx} {a b : Expr} {fa fb : EV} {pos : Pos}
theorem cBin_some {g : D → D → Option W} {env env' : Env} {o : Opd} (h : cBin g fa fb env = some (o, env')) : ∃ oa e1 ob da db w, fa env = some (oa, e1) ∧ fb e1 = some (ob, env') ∧ oa.rd env' = some da ∧ ob.rd env' = some db ∧ g da db = some w ∧ o = .val w := by
  unfold cBin at h
  rw [Option.bind_eq_some_iff] at h
  obtain ⟨⟨oa, e1⟩, h1, h⟩ := h
  rw [Option.bind_eq_some_iff] at h
  obtain ⟨⟨ob, e2⟩, h2, h⟩ := h
  rw [Option.bind_eq_some_iff] at h
  obtain ⟨da, h3, h⟩ := h
  rw [Option.bind_eq_some_iff] at h
  obtain ⟨db, h4, h⟩ := h
  rw [Option.map_eq_some_iff] at h
  obtain ⟨w, h5, h⟩ := h
  cases h
  exact ⟨oa, e1, ob, da, db, w, h1, h2, h3, h4, h5, rfl⟩
theorem cBin_imp {K : PySem.W.Frag} {g : D → D → Option W} {σ : St} {H : Hp} {Q : VK} (h : tOf K (cBin g fa fb) σ H Q) : tOp (rG K g) (tOf K fa) (tOf K fb) σ H Q := by
  obtain ⟨F, R, env, o, env', r, h, k⟩ := h
  obtain ⟨oa, e1, ob, da, db, w, h1, h2, h3, h4, h5, rfl⟩ := cBin_some h
  refine two r h1 h2 fun x y H2 F2 s2 r2 q2 => ?_
  cases q2 with
  | cons qa _ t =>
    cases t with
    | cons qb _ _ => exact ⟨F2, R, σ, env', da, db, w, r2, view_ok r2 qa h3, view_ok r2 qb h4, h5, fun v H' F' s' r' t' => k v H' F' (s2.trans s') r' t'⟩
theorem pe_bin {op : Operator} {g : D → D → Option W} (ho : OpR X (binaryOp op) (rG X.K g)) (ha : PE X a (tOf X.K fa)) (hb : PE X b (tOf X.K fb)) : PE X (.BinOp a op b pos) (tOf X.K (cBin g fa fb)) :=
  (pe_op ho ha hb).imp fun _ _ _ h => cBin_imp h
theorem pe_cmpD {op : CmpOp} {g : D → D → Option W} (ho : OpR X (compareOp op) (rG X.K g)) (ha : PE X a (tOf X.K fa)) (hb : PE X b (tOf X.K fb)) (hm : behindInMarks op b = false) : PE X (.Compare a [op] [b] pos) (tOf X.K (cBin g fa fb)) :=
  (pe_cmpR ho ha hb hm).imp fun _ _ _ h => cBin_imp h
end

/-! ### scalars that come out -/
section
variable {K : PySem.W.Frag} {F R H : Hp} {σ : St} {env : Env} {Q : VK}
theorem scal_int {i : Int} {w : W} (r : Rp K F R H σ env) (e : some (W.v (.int i)) = some w) (k : ∀ v H' F', Same F F' → Rp K F' R H' σ env → Tm K F' R H' σ env v w → Q v H') : Q (.int i) H := by
  cases e; exact k _ H F (Same.refl F) r (Tm.frozen (.int i))
theorem scal_bl {i : Bool} {w : W} (r : Rp K F R H σ env) (e : some (W.v (.bl i)) = some w) (k : ∀ v H' F', Same F F' → Rp K F' R H' σ env → Tm K F' R H' σ env v w → Q v H') : Q (.bl i) H := by
  cases e; exact k _ H F (Same.refl F) r (Tm.frozen (.bl i))
theorem scal_non {w : W} (r : Rp K F R H σ env) (e : some (W.v .non) = some w) (k : ∀ v H' F', Same F F' → Rp K F' R H' σ env → Tm K F' R H' σ env v w → Q v H') : Q .non H := by
  cases e; exact k _ H F (Same.refl F) r (Tm.frozen .non)
theorem scal_str {z : List Nat} {w : W} (r : Rp K F R H σ env) (hz : okS z) (e : some (W.v (.str z)) = some w) (k : ∀ v H' F', Same F F' → Rp K F' R H' σ env → Tm K F' R H' σ env v w → Q v H') : Q (.str ⟨z.toArray⟩) H := by
  cases e; exact k _ H F (Same.refl F) r (Tm.frozen (.str z hz))
theorem scal_lst {ds : List D} {vs : List V} {w : W} (r : Rp K F R H σ env) (q : RepFs K F vs ds) (e : some (W.l ds) = some w) (k : ∀ v H' F', Same F F' → Rp K F' R H' σ env → Tm K F' R H' σ env v w → Q v H') :
    ∀ p, H p = none → Q (.ref p) (upd H p (.lst vs)) := fun p hp => by
  cases e
  obtain ⟨r', t'⟩ := new_lst r q hp
  exact k _ _ F (Same.refl F) r' t'
theorem scal_tup {ds : List D} {vs : List V} {w : W} (r : Rp K F R H σ env) (q : RepFs K F vs ds) (e : some (W.v (.tup ds)) = some w) (k : ∀ v H' F', Same F F' → Rp K F' R H' σ env → Tm K F' R H' σ env v w → Q v H') :
    ∀ p, H p = none → Q (.ref p) (upd H p (.tup vs)) := fun p hp => by
  cases e
  obtain ⟨s', r', t'⟩ := new_tup r q hp
  exact k _ _ _ s' r' (Tm.frozen t')
theorem scal_fz {d : D} {v : V} {w : W} (r : Rp K F R H σ env) (q : RepF K F v d) (e : some (W.v d) = some w) (k : ∀ v H' F', Same F F' → Rp K F' R H' σ env → Tm K F' R H' σ env v w → Q v H') : Q v H := by
  cases e; exact k _ H F (Same.refl F) r (Tm.frozen q)
end

theorem okS.app {a b : List Nat} (ha : okS a) (hb : okS b) (h : a.length + b.length ≤ sizeLine) : okS (a ++ b) :=
  ⟨by rw [List.length_append]; exact h, fun c hc => (List.mem_append.mp hc).elim (ha.2 c) (hb.2 c)⟩
theorem okS.sub {a b : List Nat} (ha : okS a) (h : b.Sublist a) : okS b := ⟨Nat.le_trans h.length_le ha.1, fun c hc => ha.2 c (h.subset hc)⟩

/-! ### + -/
def gAdd : D → D → Option W
  | .int i, .int j => some (.v (.int (i + j)))
  | .str a, .str b => if a.length + b.length ≤ sizeLine then some (.v (.str (a ++ b))) else none
  | .lst a, .lst b => if a.length + b.length ≤ sizeLine then some (.l (a ++ b)) else none
  | .tup a, .tup b => if a.length + b.length ≤ sizeLine then some (.v (.tup (a ++ b))) else none
  | _, _ => none
section
variable {X : Cx}
theorem add_ok : OpR X (binaryOp .Add) (rG X.K gAdd) := by
  intro pins s σ H x y v u Q I rx ry h
  obtain ⟨F, R, σ', env, da, db, w, r, va, vb, e, k⟩ := h
  unfold gAdd at e
  split at e
  · obtain rfl := RepF.int_eq va
    obtain rfl := RepF.int_eq vb
    exact op_add pins s σ H _ _ v u Q I rx ry ⟨_, _, rfl, rfl, scal_int r e k⟩
  · obtain ⟨rfl, ha⟩ := RepF.str_eq va
    obtain ⟨rfl, hb⟩ := RepF.str_eq vb
    split at e
    · rename_i a b hz
      refine op_add_str pins s σ H _ _ v u Q I rx ry ⟨_, _, rfl, rfl, by simpa [Str.length] using hz, ?_⟩
      have := scal_str (Q := Q) r (ha.app hb hz) e k
      have e2 : (⟨a.toArray⟩ : Str) ++ ⟨b.toArray⟩ = ⟨(a ++ b).toArray⟩ := TL.ext_tl (by rw [TL.tl_append, TL.tl_mk, TL.tl_mk, TL.tl_mk])
      rw [e2]
      exact this
    · cases e
  · obtain ⟨a, vs, rfl, ha, qa⟩ := va
    obtain ⟨b, ws, rfl, hb, qb⟩ := vb
    split at e
    · rename_i hz
      exact op_cat pins s σ H _ _ v u Q I rx ry ⟨a, b, vs, ws, rfl, rfl, ha, hb, by rw [qa.length, qb.length]; exact hz, scal_lst r (qa.append qb) e k⟩
    · cases e
  · obtain ⟨a, vs, rfl, ha, fa, qa⟩ := va
    obtain ⟨b, ws, rfl, hb, fb, qb⟩ := vb
    split at e
    · rename_i x1 y1 hz
      refine op_catA pins s σ H _ _ v u Q I rx ry ⟨a, b, vs, ws, rfl, rfl, ha, hb, by rw [qa.length, qb.length]; exact hz, fun z => ?_, fun _ z => ?_, fun _ _ => scal_tup r (qa.append qb) e k⟩
      · subst z
        cases qa
        exact scal_fz r (.tup fb qb) e k
      · subst z
        cases qb
        exact scal_fz r (.tup fa qa) (by rw [List.append_nil] at e; exact e) k
    · cases e
  · cases e
end
end PD

set_option Elab.async false
set_option linter.all false
set_option maxRecDepth 100000
/-! P4: the other operators, comparisons. -/
namespace PD
open PySem PySem.Spec L2
open PyProof.Rows hiding St

/-! ### == of data -/
mutual
def D.toPy : D → PyData
  | .non => .none
  | .bl b => .bool b
  | .int i => .int i
  | .str z => .str ⟨z.toArray⟩
  | .lst xs => .list (D.toPys xs)
  | .tup xs => .tuple (D.toPys xs)
  | .dic _ => .dict []
  | .scr _ => .dict []
def D.toPys : List D → List PyData
  | [] => []
  | d :: ds => d.toPy :: D.toPys ds
end
mutual
/-- Python's == -/
def D.eqv : D → D → Bool
  | .non, d => (match d with | .non => true | _ => false)
  | .bl a, d => (match d with | .bl b => a == b | .int j => (if a then 1 else 0) == j | _ => false)
  | .int i, d => (match d with | .bl b => i == (if b then 1 else 0) | .int j => i == j | _ => false)
  | .str x, d => (match d with | .str y => decide (x = y) | _ => false)
  | .lst xs, d => (match d with | .lst ys => D.eqvs xs ys | _ => false)
  | .tup xs, d => (match d with | .tup ys => D.eqvs xs ys | _ => false)
  | .dic _, _ => false
  | .scr _, _ => false
def D.eqvs : List D → List D → Bool
  | [], ys => (match ys with | [] => true | _ => false)
  | x :: xs, ys => (match ys with | [] => false | y :: ys => D.eqv x y && D.eqvs xs ys)
end
/-- data without dicts, nested at most n deep -/
def okD : Nat → D → Bool
  | 0, d => (match d with | .non => true | .bl _ => true | .int _ => true | .str _ => true | _ => false)
  | n + 1, d => (match d with | .lst xs => xs.all (okD n) | .tup xs => xs.all (okD n) | .dic _ => false | .scr _ => false | _ => true)

theorem toPys_eq (xs : List D) : D.toPys xs = xs.map D.toPy := by
  induction xs with
  | nil => rfl
  | cons x xs ih => show x.toPy :: D.toPys xs = _; rw [ih]; rfl
section
variable {K : PySem.W.Frag} {H : Hp}
mutual
theorem RepF.dp : ∀ {v : V} {d : D}, RepF K H v d → ∀ n, okD n d = true → Dp K H v d.toPy
  | _, _, .non, _, _ => .non
  | _, _, .bl b, _, _ => .bl b
  | _, _, .int i, _, _ => .int i
  | _, _, .str z _, _, _ => .str _
  | _, _, .lst h r, 0, e => by cases e
  | _, _, .lst h r, n + 1, e => .lst (SqL.of h) (RepFs.dp r n e)
  | _, _, .tup h r, 0, e => by cases e
  | _, _, .tup h r, n + 1, e => .tup h (RepFs.dp r n e)
  | _, _, .dic h r, 0, e => by cases e
  | _, _, .dic h r, n + 1, e => by cases e
  | _, _, .scr h r, 0, e => by cases e
  | _, _, .scr h r, n + 1, e => by cases e
theorem RepFs.dp : ∀ {vs : List V} {ds : List D}, RepFs K H vs ds → ∀ n, ds.all (okD n) = true → DpAll K H vs (D.toPys ds)
  | _, _, .nil, _, _ => .nil
  | _, _, .cons r t, n, e => by
    rw [List.all_cons, Bool.and_eq_true] at e
    exact .cons (RepF.dp r n e.1) (RepFs.dp t n e.2)
end
mutual
theorem RepF.lay : ∀ {v : V} {d : D}, RepF K H v d → ∀ n, okD n d = true → d.toPy.canLay0 = true ∧ d.toPy.depth ≤ n
  | _, _, .non, _, _ => ⟨rfl, Nat.zero_le _⟩
  | _, _, .bl b, _, _ => ⟨rfl, Nat.zero_le _⟩
  | _, _, .int i, _, _ => ⟨rfl, Nat.zero_le _⟩
  | _, _, .str z h, _, _ => by
    refine ⟨?_, Nat.zero_le _⟩
    show (z.toArray.all fun c => decide (c < 0x110000)) = true
    rw [List.all_toArray, List.all_eq_true]
    exact fun c hc => decide_eq_true (h.2 c hc)
  | _, _, .lst h r, 0, e => by cases e
  | _, _, .lst h r, n + 1, e => by
    obtain ⟨h1, h2⟩ := RepFs.lay r n e
    exact ⟨h1, Nat.succ_le_succ h2⟩
  | _, _, .tup h r, 0, e => by cases e
  | _, _, .tup h r, n + 1, e => by
    obtain ⟨h1, h2⟩ := RepFs.lay r n e
    exact ⟨h1, Nat.succ_le_succ h2⟩
  | _, _, .dic h r, 0, e => by cases e
  | _, _, .dic h r, n + 1, e => by cases e
  | _, _, .scr h r, 0, e => by cases e
  | _, _, .scr h r, n + 1, e => by cases e
theorem RepFs.lay : ∀ {vs : List V} {ds : List D}, RepFs K H vs ds → ∀ n, ds.all (okD n) = true → PyData.canLayAll0 (D.toPys ds) = true ∧ PyData.depthAll (D.toPys ds) ≤ n
  | _, _, .nil, _, _ => ⟨rfl, Nat.zero_le _⟩
  | _, _, .cons r t, n, e => by
    rw [List.all_cons, Bool.and_eq_true] at e
    obtain ⟨h1, h2⟩ := RepF.lay r n e.1
    obtain ⟨h3, h4⟩ := RepFs.lay t n e.2
    refine ⟨?_, ?_⟩
    · show (PyData.canLay0 _ && PyData.canLayAll0 _) = true
      rw [h1, h3]; rfl
    · show max _ _ ≤ n
      exact Nat.max_le.mpr ⟨h2, h4⟩
end
theorem RepF.shaped {v : V} {d : D} {n : Nat} (r : RepF K H v d) (e : okD n d = true) (hn : n ≤ 64) : SeqAt.shaped d.toPy = true := by
  obtain ⟨h1, h2⟩ := r.lay n e
  unfold SeqAt.shaped
  rw [h1, decide_eq_true (Nat.le_trans h2 hn)]
  rfl
end
theorem str_beq (x y : List Nat) : ((⟨x.toArray⟩ : Str) == ⟨y.toArray⟩) = decide (x = y) := by
  by_cases h : x = y
  · subst h; simp
  · have : ¬ (⟨x.toArray⟩ : Str) = ⟨y.toArray⟩ := fun e => h (by injection e with e; simpa using congrArg Array.toList e)
    rw [beq_eq_false_iff_ne.mpr this, decide_eq_false h]
mutual
theorem eqv_toPy : ∀ (a b : D) (n : Nat), okD n a = true → D.eqv a b = PyData.eqv a.toPy b.toPy
  | .non, b, _, _ => by cases b <;> rfl
  | .bl x, b, _, _ => by cases b <;> rfl
  | .int x, b, _, _ => by cases b <;> rfl
  | .str x, b, _, _ => by
    cases b <;> first
      | rfl
      | exact (str_beq _ _).symm
  | .lst xs, b, 0, e => by cases e
  | .lst xs, b, n + 1, e => by
    cases b <;> first
      | rfl
      | exact eqvs_toPy xs _ n e
  | .tup xs, b, 0, e => by cases e
  | .tup xs, b, n + 1, e => by
    cases b <;> first
      | rfl
      | exact eqvs_toPy xs _ n e
  | .dic _, b, 0, e => by cases e
  | .dic _, b, n + 1, e => by cases e
  | .scr _, b, 0, e => by cases e
  | .scr _, b, n + 1, e => by cases e
theorem eqvs_toPy : ∀ (xs ys : List D) (n : Nat), xs.all (okD n) = true → D.eqvs xs ys = PyData.eqvAll (D.toPys xs) (D.toPys ys)
  | [], ys, _, _ => by cases ys <;> rfl
  | x :: xs, [], _, _ => rfl
  | x :: xs, y :: ys, n, e => by
    rw [List.all_cons, Bool.and_eq_true] at e
    show (D.eqv x y && D.eqvs xs ys) = (PyData.eqv _ _ && PyData.eqvAll _ _)
    rw [eqv_toPy x y n e.1, eqvs_toPy xs ys n e.2]
end

def gEq : D → D → Option W := fun a b => if okD 60 a && okD 60 b then some (.v (.bl (D.eqv a b))) else none
def gNe : D → D → Option W := fun a b => if okD 60 a && okD 60 b then some (.v (.bl (!D.eqv a b))) else none
section
variable {X : Cx}
theorem eq_ok (hu : X.A.units + 64 < cLine) : OpR X (compareOp .Eq) (rG X.K gEq) := by
  intro pins s σ H x y v u Q I rx ry h
  obtain ⟨F, R, σ', env, da, db, w, r, va, vb, e, k⟩ := h
  unfold gEq at e
  split at e
  · rename_i h
    rw [Bool.and_eq_true] at h
    have ra := va.rep r.fH
    have rb := vb.rep r.fH
    refine op_eqD hu pins s σ H x y v u Q I rx ry ⟨da.toPy, db.toPy, ra.dp 60 h.1, rb.dp 60 h.2, ra.shaped h.1 (by decide), rb.shaped h.2 (by decide), ?_⟩
    rw [← eqv_toPy da db 60 h.1]
    exact scal_bl r e k
  · cases e
theorem ne_ok (hu : X.A.units + 64 < cLine) : OpR X (compareOp .NotEq) (rG X.K gNe) := by
  intro pins s σ H x y v u Q I rx ry h
  obtain ⟨F, R, σ', env, da, db, w, r, va, vb, e, k⟩ := h
  unfold gNe at e
  split at e
  · rename_i h
    rw [Bool.and_eq_true] at h
    have ra := va.rep r.fH
    have rb := vb.rep r.fH
    refine op_neD hu pins s σ H x y v u Q I rx ry ⟨da.toPy, db.toPy, ra.dp 60 h.1, rb.dp 60 h.2, ra.shaped h.1 (by decide), rb.shaped h.2 (by decide), ?_⟩
    rw [← eqv_toPy da db 60 h.1]
    exact scal_bl r e k
  · cases e
end

/-! ### arithmetic -/
def gSub : D → D → Option W
  | .int i, .int j => some (.v (.int (i - j)))
  | _, _ => none
def gMul : D → D → Option W
  | .int i, .int j => if i.natAbs < 2 ^ 64 ∨ j.natAbs < 2 ^ 64 then some (.v (.int (i * j))) else none
  | .lst xs, .int k => if 0 ≤ k ∧ k < 2 ^ 20 ∧ xs.length * k.toNat ≤ sizeLine then some (.l (List.replicate k.toNat xs).flatten) else none
  | .str z, .int k => if 0 ≤ k ∧ k < 2 ^ 20 ∧ z.length * k.toNat ≤ sizeLine then some (.v (.str (List.replicate k.toNat z).flatten)) else none
  | _, _ => none
def gFdiv : D → D → Option W
  | .int i, .int j => if 0 < j ∧ j < 2 ^ 64 then some (.v (.int (i / j))) else none
  | _, _ => none
def gMod : D → D → Option W
  | .int i, .int j => if 0 < j then some (.v (.int (i % j))) else none
  | _, _ => none
def gPow : D → D → Option W
  | .int i, .int j => if 0 ≤ j ∧ j ≤ 1000 ∧ i.natAbs < 2 ^ 64 then some (.v (.int (i ^ j.toNat))) else none
  | _, _ => none
theorem RepFs.rep {K : PySem.W.Frag} {F : Hp} {vs : List V} {ds : List D} (q : RepFs K F vs ds) : ∀ n : Nat, RepFs K F (List.replicate n vs).flatten (List.replicate n ds).flatten
  | 0 => .nil
  | n + 1 => by
    rw [List.replicate_succ, List.replicate_succ, List.flatten_cons, List.flatten_cons]
    exact q.append (RepFs.rep q n)
theorem okS.rep {z : List Nat} (h : okS z) {n : Nat} (hn : z.length * n ≤ sizeLine) : okS (List.replicate n z).flatten := by
  refine ⟨?_, fun c hc => ?_⟩
  · rw [PyProof.Rows.lm_len_rep_flat, Nat.mul_comm]; exact hn
  · obtain ⟨l, hl, hc⟩ := List.mem_flatten.mp hc
    rw [List.mem_replicate] at hl
    rw [hl.2] at hc
    exact h.2 c hc
theorem fold_arr (z : List Nat) : ∀ (n : Nat) (acc : List Nat), ((List.replicate n z.toArray).foldl (· ++ ·) acc.toArray) = (acc ++ (List.replicate n z).flatten).toArray
  | 0, acc => by simp
  | n + 1, acc => by
    rw [List.replicate_succ, List.foldl_cons]
    have : acc.toArray ++ z.toArray = (acc ++ z).toArray := by simp
    rw [this, fold_arr z n (acc ++ z), List.replicate_succ, List.flatten_cons, List.append_assoc]
section
variable {X : Cx}
theorem sub_ok : OpR X (binaryOp .Sub) (rG X.K gSub) := by
  intro pins s σ H x y v u Q I rx ry h
  obtain ⟨F, R, σ', env, da, db, w, r, va, vb, e, k⟩ := h
  unfold gSub at e
  split at e
  · obtain rfl := RepF.int_eq va
    obtain rfl := RepF.int_eq vb
    exact op_sub pins s σ H _ _ v u Q I rx ry ⟨_, _, rfl, rfl, scal_int r e k⟩
  · cases e
theorem abs64 {i : Int} (h : i.natAbs < 2 ^ 64) : -(2 ^ 64) < i ∧ i < 2 ^ 64 := by omega
theorem op_mulS {z : List Nat} {k : Int} (hk : 0 ≤ k ∧ k < 2 ^ 20 ∧ z.length * k.toNat ≤ sizeLine) (pins : List (Addr × Obj)) (s : Shared) (σ : L2.St) (H : Hp) (v u : Value) (Q : VK) (I : Inv X pins σ H s) (rx : RelV (.str ⟨z.toArray⟩) v) (ry : RelV (.int k) u)
    (q : Q (.str ⟨(List.replicate k.toNat z).flatten.toArray⟩) H) : wpAny (model X.prog X.w) X.A (binaryOp .Mult v u) (EP X pins σ Q) X.xe s := by
  obtain ⟨t, rfl⟩ := rx
  obtain ⟨t', rfl⟩ := ry
  obtain ⟨h1, h2, h3⟩ := hk
  have hs : sizeLine = 16777216 := sizeLine_eq
  have hlen : (⟨z.toArray⟩ : Str).length = z.length := by simp [Str.length]
  refine PySem.P.mul_str (by simp; omega) (fun h4 h5 => ?_) (fun h4 h5 => ?_) ?_
  · rw [hlen]
    have e1 : z.length * 1 ≤ z.length * k.toNat := Nat.mul_le_mul_left _ (by omega)
    have h7 : (z.length : Int) ≤ 16777216 := by omega
    have h6 : (z.length : Int) * k ≤ 2 ^ 63 - 1 := by
      have := Int.mul_le_mul h7 (show k ≤ 2 ^ 20 by omega) h1 (by omega)
      omega
    have := Int.le_ediv_of_mul_le (by omega) h6
    omega
  · rw [hlen]
    exact decide_eq_false (by omega)
  · have fin : ∀ (vv : Value) (tk : Nat), RelV (.str ⟨(List.replicate k.toNat z).flatten.toArray⟩) vv → EP X pins σ Q vv { s with toks := tk } := fun vv tk rv => ⟨_, H, I.kept (t' := tk) fun b o e => e, rv, q⟩
    split
    · rename_i h4
      have : k.toNat = 0 := by omega
      rw [this] at fin
      exact ⟨Nat.zero_le _, fin (.str Str.empty s.toks) _ ⟨_, rfl⟩⟩
    · split
      · rename_i h4 h5
        rw [hlen, Bool.or_eq_true] at h5
        have : (List.replicate k.toNat z).flatten = z := by
          rcases h5 with h5 | h5
          · have : k = 1 := eq_of_beq h5
            subst this
            simp
          · have : z = [] := by simpa using h5
            subst this
            simp
        rw [this] at fin
        exact fin _ s.toks ⟨_, rfl⟩
      · have := fold_arr z k.toNat []
        rw [List.nil_append] at this
        have e2 : (List.replicate k.toNat (⟨z.toArray⟩ : Str).cps).foldl (· ++ ·) #[] = (List.replicate k.toNat z).flatten.toArray := this
        rw [e2]
        exact ⟨by rw [Str.length, List.size_toArray, PyProof.Rows.lm_len_rep_flat, Nat.mul_comm]; exact h3, fin _ _ ⟨_, rfl⟩⟩
theorem mul_ok : OpR X (binaryOp .Mult) (rG X.K gMul) := by
  intro pins s σ H x y v u Q I rx ry h
  obtain ⟨F, R, σ', env, da, db, w, r, va, vb, e, k⟩ := h
  unfold gMul at e
  split at e
  · obtain rfl := RepF.int_eq va
    obtain rfl := RepF.int_eq vb
    split at e
    · rename_i hm
      exact op_mul pins s σ H _ _ v u Q I rx ry ⟨_, _, rfl, rfl, hm.imp abs64 abs64, scal_int r e k⟩
    · cases e
  · obtain ⟨a, vs, rfl, ha, qa⟩ := va
    obtain rfl := RepF.int_eq vb
    split at e
    · rename_i hm
      exact op_rep pins s σ H _ _ v u Q I rx ry ⟨a, _, vs, rfl, rfl, ha, by omega, by omega, by rw [qa.length]; exact hm.2.2, scal_lst r (qa.rep _) e k⟩
    · cases e
  · obtain ⟨rfl, ha⟩ := RepF.str_eq va
    obtain rfl := RepF.int_eq vb
    split at e
    · rename_i hm
      exact op_mulS hm pins s σ H v u Q I rx ry (scal_str r (ha.rep hm.2.2) e k)
    · cases e
  · cases e
theorem fdiv_ok : OpR X (binaryOp .FloorDiv) (rG X.K gFdiv) := by
  intro pins s σ H x y v u Q I rx ry h
  obtain ⟨F, R, σ', env, da, db, w, r, va, vb, e, k⟩ := h
  unfold gFdiv at e
  split at e
  · obtain rfl := RepF.int_eq va
    obtain rfl := RepF.int_eq vb
    split at e
    · rename_i hm
      exact op_fdivW pins s σ H _ _ v u Q I rx ry ⟨_, _, rfl, rfl, wide_div (b := 64) hm.1 (by omega) (by decide) (by decide), scal_int r e k⟩
    · cases e
  · cases e
theorem mod_ok : OpR X (binaryOp .Mod) (rG X.K gMod) := by
  intro pins s σ H x y v u Q I rx ry h
  obtain ⟨F, R, σ', env, da, db, w, r, va, vb, e, k⟩ := h
  unfold gMod at e
  split at e
  · obtain rfl := RepF.int_eq va
    obtain rfl := RepF.int_eq vb
    split at e
    · rename_i hm
      exact op_mod pins s σ H _ _ v u Q I rx ry ⟨_, _, rfl, rfl, hm, scal_int r e k⟩
    · cases e
  · cases e
theorem pow_ok : OpR X (binaryOp .Pow) (rG X.K gPow) := by
  intro pins s σ H x y v u Q I rx ry h
  obtain ⟨F, R, σ', env, da, db, w, r, va, vb, e, k⟩ := h
  unfold gPow at e
  split at e
  · obtain rfl := RepF.int_eq va
    obtain rfl := RepF.int_eq vb
    split at e
    · rename_i hm
      exact op_pow pins s σ H _ _ v u Q I rx ry ⟨_, _, rfl, rfl, ⟨hm.1, by have := hm.2.1; omega, hm.2.2⟩, scal_int r e k⟩
    · cases e
  · cases e

/-! ### order, is, in -/
def gLt : D → D → Option W
  | .int i, .int j => some (.v (.bl (decide (i < j))))
  | .str a, .str b => some (.v (.bl (decide (a < b))))
  | _, _ => none
def gLe : D → D → Option W
  | .int i, .int j => some (.v (.bl (decide (i ≤ j))))
  | .str a, .str b => some (.v (.bl (!decide (b < a))))
  | _, _ => none
def gGt : D → D → Option W
  | .int i, .int j => some (.v (.bl (decide (j < i))))
  | .str a, .str b => some (.v (.bl (decide (b < a))))
  | _, _ => none
def gGe : D → D → Option W
  | .int i, .int j => some (.v (.bl (decide (j ≤ i))))
  | .str a, .str b => some (.v (.bl (!decide (a < b))))
  | _, _ => none
def D.isNon : D → Bool
  | .non => true
  | _ => false
def gIs : D → D → Option W
  | a, .non => some (.v (.bl a.isNon))
  | .bl a, .bl b => some (.v (.bl (a == b)))
  | _, _ => none
def gIsNot : D → D → Option W
  | a, .non => some (.v (.bl (!a.isNon)))
  | .bl a, .bl b => some (.v (.bl (!(a == b))))
  | _, _ => none
theorem lt_ok : OpR X (compareOp .Lt) (rG X.K gLt) := by
  intro pins s σ H x y v u Q I rx ry h
  obtain ⟨F, R, σ', env, da, db, w, r, va, vb, e, k⟩ := h
  unfold gLt at e
  split at e
  · obtain rfl := RepF.int_eq va
    obtain rfl := RepF.int_eq vb
    exact op_lt pins s σ H _ _ v u Q I rx ry ⟨_, _, rfl, rfl, scal_bl r e k⟩
  · obtain ⟨rfl, _⟩ := RepF.str_eq va
    obtain ⟨rfl, _⟩ := RepF.str_eq vb
    exact op_lt_str pins s σ H _ _ v u Q I rx ry ⟨_, _, rfl, rfl, scal_bl r e k⟩
  · cases e
theorem le_ok : OpR X (compareOp .LtE) (rG X.K gLe) := by
  intro pins s σ H x y v u Q I rx ry h
  obtain ⟨F, R, σ', env, da, db, w, r, va, vb, e, k⟩ := h
  unfold gLe at e
  split at e
  · obtain rfl := RepF.int_eq va
    obtain rfl := RepF.int_eq vb
    exact op_le pins s σ H _ _ v u Q I rx ry ⟨_, _, rfl, rfl, scal_bl r e k⟩
  · obtain ⟨rfl, _⟩ := RepF.str_eq va
    obtain ⟨rfl, _⟩ := RepF.str_eq vb
    exact op_le_str pins s σ H _ _ v u Q I rx ry ⟨_, _, rfl, rfl, scal_bl r e k⟩
  · cases e
theorem gt_ok : OpR X (compareOp .Gt) (rG X.K gGt) := by
  intro pins s σ H x y v u Q I rx ry h
  obtain ⟨F, R, σ', env, da, db, w, r, va, vb, e, k⟩ := h
  unfold gGt at e
  split at e
  · obtain rfl := RepF.int_eq va
    obtain rfl := RepF.int_eq vb
    exact op_gt pins s σ H _ _ v u Q I rx ry ⟨_, _, rfl, rfl, scal_bl r e k⟩
  · obtain ⟨rfl, _⟩ := RepF.str_eq va
    obtain ⟨rfl, _⟩ := RepF.str_eq vb
    exact op_gt_str pins s σ H _ _ v u Q I rx ry ⟨_, _, rfl, rfl, scal_bl r e k⟩
  · cases e
theorem ge_ok : OpR X (compareOp .GtE) (rG X.K gGe) := by
  intro pins s σ H x y v u Q I rx ry h
  obtain ⟨F, R, σ', env, da, db, w, r, va, vb, e, k⟩ := h
  unfold gGe at e
  split at e
  · obtain rfl := RepF.int_eq va
    obtain rfl := RepF.int_eq vb
    exact op_ge pins s σ H _ _ v u Q I rx ry ⟨_, _, rfl, rfl, scal_bl r e k⟩
  · obtain ⟨rfl, _⟩ := RepF.str_eq va
    obtain ⟨rfl, _⟩ := RepF.str_eq vb
    exact op_ge_str pins s σ H _ _ v u Q I rx ry ⟨_, _, rfl, rfl, scal_bl r e k⟩
  · cases e
theorem isNon_iff {K : PySem.W.Frag} {F H : Hp} {v : V} {d : D} (r : RepF K F v d) : decide (v = V.non) = d.isNon := by
  cases r <;> first | rfl | exact decide_eq_false (fun z => nomatch z)
theorem is_ok : OpR X (compareOp .Is) (rG X.K gIs) := by
  intro pins s σ H x y v u Q I rx ry h
  obtain ⟨F, R, σ', env, da, db, w, r, va, vb, e, k⟩ := h
  unfold gIs at e
  split at e
  · obtain rfl := RepF.non_eq vb
    refine op_isN pins s σ H _ _ v u Q I rx ry ⟨rfl, ?_⟩
    rw [isNon_iff (H := H) (va.rep r.fH)]
    exact scal_bl r e k
  · obtain rfl := RepF.bl_eq va
    obtain rfl := RepF.bl_eq vb
    refine op_isBl pins s σ H _ _ v u Q I rx ry ⟨_, _, rfl, rfl, ?_⟩
    rw [← Bool.beq_eq_decide_eq]
    exact scal_bl r e k
  · cases e
theorem isnot_ok : OpR X (compareOp .IsNot) (rG X.K gIsNot) := by
  intro pins s σ H x y v u Q I rx ry h
  obtain ⟨F, R, σ', env, da, db, w, r, va, vb, e, k⟩ := h
  unfold gIsNot at e
  split at e
  · obtain rfl := RepF.non_eq vb
    refine op_notN pins s σ H _ _ v u Q I rx ry ⟨rfl, ?_⟩
    rw [isNon_iff (H := H) (va.rep r.fH)]
    exact scal_bl r e k
  · obtain rfl := RepF.bl_eq va
    obtain rfl := RepF.bl_eq vb
    refine op_notBl pins s σ H _ _ v u Q I rx ry ⟨_, _, rfl, rfl, ?_⟩
    rw [← Bool.beq_eq_decide_eq]
    exact scal_bl r e k
  · cases e
end
end PD

set_option Elab.async false
set_option linter.all false
set_option maxRecDepth 100000
/-! P5: decidable equality of data; in, not in; subscripts; slices. -/
namespace PD
open PySem PySem.Spec L2
open PyProof.Rows hiding St

mutual
def D.beq : D → D → Bool
  | .non, d => (match d with | .non => true | _ => false)
  | .bl a, d => (match d with | .bl b => a == b | _ => false)
  | .int i, d => (match d with | .int j => i == j | _ => false)
  | .str x, d => (match d with | .str y => x == y | _ => false)
  | .lst xs, d => (match d with | .lst ys => D.beqs xs ys | _ => false)
  | .tup xs, d => (match d with | .tup ys => D.beqs xs ys | _ => false)
  | .dic xs, d => (match d with | .dic ys => D.beqk xs ys | _ => false)
  | .scr xs, d => (match d with | .scr ys => D.beqs xs ys | _ => false)
def D.beqs : List D → List D → Bool
  | [], ys => (match ys with | [] => true | _ => false)
  | x :: xs, ys => (match ys with | [] => false | y :: ys => D.beq x y && D.beqs xs ys)
def D.beqk : List (D × D) → List (D × D) → Bool
  | [], ys => (match ys with | [] => true | _ => false)
  | x :: xs, ys => (match ys with | [] => false | y :: ys => D.beq x.1 y.1 && D.beq x.2 y.2 && D.beqk xs ys)
end
mutual
theorem beq_eq : ∀ (a b : D), D.beq a b = true → a = b
  | .non, b, h => by cases b <;> first | rfl | cases h
  | .bl x, b, h => by cases b <;> first | (exact congrArg D.bl (eq_of_beq h)) | cases h
  | .int x, b, h => by cases b <;> first | (exact congrArg D.int (eq_of_beq h)) | cases h
  | .str x, b, h => by cases b <;> first | (exact congrArg D.str (eq_of_beq h)) | cases h
  | .lst x, b, h => by cases b <;> first | (exact congrArg D.lst (beqs_eq _ _ h)) | cases h
  | .tup x, b, h => by cases b <;> first | (exact congrArg D.tup (beqs_eq _ _ h)) | cases h
  | .dic x, b, h => by cases b <;> first | (exact congrArg D.dic (beqk_eq _ _ h)) | cases h
  | .scr x, b, h => by cases b <;> first | (exact congrArg D.scr (beqs_eq _ _ h)) | cases h
theorem beqs_eq : ∀ (a b : List D), D.beqs a b = true → a = b
  | [], b, h => by cases b <;> first | rfl | cases h
  | x :: xs, [], h => by cases h
  | x :: xs, y :: ys, h => by
    have h : (D.beq x y && D.beqs xs ys) = true := h
    rw [Bool.and_eq_true] at h
    rw [beq_eq x y h.1, beqs_eq xs ys h.2]
theorem beqk_eq : ∀ (a b : List (D × D)), D.beqk a b = true → a = b
  | [], b, h => by cases b <;> first | rfl | cases h
  | x :: xs, [], h => by cases h
  | (x1, x2) :: xs, (y1, y2) :: ys, h => by
    have h : (D.beq x1 y1 && D.beq x2 y2 && D.beqk xs ys) = true := h
    rw [Bool.and_eq_true, Bool.and_eq_true] at h
    rw [beq_eq x1 y1 h.1.1, beq_eq x2 y2 h.1.2, beqk_eq xs ys h.2]
end
mutual
theorem beq_self : ∀ (a : D), D.beq a a = true
  | .non => rfl
  | .bl x => beq_self_eq_true x
  | .int x => beq_self_eq_true x
  | .str x => beq_self_eq_true x
  | .lst x => beqs_self x
  | .tup x => beqs_self x
  | .dic x => beqk_self x
  | .scr x => beqs_self x
theorem beqs_self : ∀ (a : List D), D.beqs a a = true
  | [] => rfl
  | x :: xs => by
    show (D.beq x x && D.beqs xs xs) = true
    rw [beq_self x, beqs_self xs]; rfl
theorem beqk_self : ∀ (a : List (D × D)), D.beqk a a = true
  | [] => rfl
  | (x1, x2) :: xs => by
    show (D.beq x1 x1 && D.beq x2 x2 && D.beqk xs xs) = true
    rw [beq_self x1, beq_self x2, beqk_self xs]; rfl
end
instance : DecidableEq D := fun a b => if h : D.beq a b = true then isTrue (beq_eq a b h) else isFalse fun e => h (by subst e; exact beq_self a)

/-! ### keys -/
theorem kD_inj {a b : Key} (h : kD a = kD b) : a = b := by
  cases a with
  | inl i =>
    cases b with
    | inl j => cases h; rfl
    | inr y => cases h
  | inr x =>
    cases b with
    | inl j => cases h
    | inr y =>
      have : x.cps.toList = y.cps.toList := by injection h
      exact congrArg Sum.inr (TL.ext_tl this)
def D.key : D → Option Key
  | .int i => some (.inl i)
  | .str z => some (.inr ⟨z.toArray⟩)
  | _ => none
theorem key_kD {d : D} {k : Key} (h : d.key = some k) : d = kD k := by
  cases d <;> first
    | (cases h; rfl)
    | cases h
theorem key_kV {K : PySem.W.Frag} {F : Hp} {v : V} {d : D} {k : Key} (r : RepF K F v d) (h : d.key = some k) : v = kV k := by
  cases r <;> first
    | (cases h; rfl)
    | cases h
theorem key_ok {K : PySem.W.Frag} {F : Hp} {v : V} {d : D} {k : Key} (r : RepF K F v d) (h : d.key = some k) : okK k := by
  cases r <;> first
    | (cases h; exact trivial)
    | (cases h; assumption)
    | cases h
def look (ks : List (D × D)) (k : D) : Option D := (ks.find? fun p => decide (p.1 = k)).map (·.2)
def putD (ks : List (D × D)) (k v : D) : List (D × D) := if (ks.any fun p => decide (p.1 = k)) = true then ks.map fun p => if p.1 = k then (p.1, v) else p else ks ++ [(k, v)]
section
variable {K : PySem.W.Frag} {F : Hp}
theorem RepKs.look : ∀ {kvs : List (Key × V)} {ds : List (D × D)} (k : Key), RepKs K F kvs ds → (∀ d, PD.look ds (kD k) = some d → ∃ v, valV kvs k = some v ∧ RepF K F v d) ∧ (PD.look ds (kD k) = none → valV kvs k = none)
  | _, _, k, .nil => ⟨fun d h => (by cases h), fun _ => rfl⟩
  | (k', v) :: kvs, (_, d0) :: ds, k, .cons _ r t => by
    obtain ⟨h1, h2⟩ := RepKs.look k t
    by_cases e : k' = k
    · subst e
      refine ⟨fun d h => ?_, fun h => ?_⟩
      · have : some d0 = some d := by simpa [PD.look, List.find?_cons] using h
        cases this
        exact ⟨v, valV_pos rfl, r⟩
      · simp [PD.look, List.find?_cons] at h
    · have e' : ¬ kD k' = kD k := fun z => e (kD_inj z)
      have ed : PD.look ((kD k', d0) :: ds) (kD k) = PD.look ds (kD k) := by simp [PD.look, List.find?_cons, e']
      have ev : valV ((k', v) :: kvs) k = valV kvs k := valV_neg e
      rw [ed, ev]
      exact ⟨h1, h2⟩
theorem RepKs.any : ∀ {kvs : List (Key × V)} {ds : List (D × D)} (k : Key), RepKs K F kvs ds → (kvs.any fun p => decide (p.1 = k)) = ds.any fun p => decide (p.1 = kD k)
  | _, _, k, .nil => rfl
  | (k', v) :: kvs, _ :: ds, k, .cons _ r t => by
    rw [List.any_cons, List.any_cons, RepKs.any k t]
    congr 1
    by_cases e : k' = k
    · subst e; simp
    · have e' : ¬ kD k' = kD k := fun z => e (kD_inj z)
      rw [decide_eq_false e, decide_eq_false e']
theorem RepKs.app : ∀ {a b : List (Key × V)} {ds es : List (D × D)}, RepKs K F a ds → RepKs K F b es → RepKs K F (a ++ b) (ds ++ es)
  | _, _, _, _, .nil, s => s
  | _, _, _, _, .cons o r t, s => .cons o r (RepKs.app t s)
theorem RepKs.repl {v : V} {d : D} (q : RepF K F v d) (k : Key) : ∀ {kvs : List (Key × V)} {ds : List (D × D)}, RepKs K F kvs ds → RepKs K F (kvs.map fun p => if p.1 = k then (p.1, v) else p) (ds.map fun p => if p.1 = kD k then (p.1, d) else p)
  | _, _, .nil => .nil
  | (k', v') :: kvs, _ :: ds, .cons o r t => by
    rw [List.map_cons, List.map_cons]
    by_cases e : k' = k
    · subst e
      rw [if_pos rfl, if_pos rfl]
      exact .cons o q (RepKs.repl q k' t)
    · rw [if_neg e, if_neg fun z => e (kD_inj z)]
      exact .cons o r (RepKs.repl q k t)
theorem RepKs.put {v : V} {d : D} {kvs : List (Key × V)} {ds : List (D × D)} (k : Key) (o : okK k) (t : RepKs K F kvs ds) (q : RepF K F v d) : RepKs K F (putK kvs k v) (putD ds (kD k) d) := by
  unfold putK putD
  rw [t.any k]
  split
  · exact t.repl q k
  · exact t.app (.cons o q .nil)
theorem RepKs.length : ∀ {kvs : List (Key × V)} {ds : List (D × D)}, RepKs K F kvs ds → kvs.length = ds.length
  | _, _, .nil => rfl
  | _, _, .cons _ _ t => congrArg (· + 1) (RepKs.length t)
end

/-! ### flat items -/
def D.flat : D → Bool
  | .non => true
  | .bl _ => true
  | .int _ => true
  | .str _ => true
  | _ => false
section
variable {K : PySem.W.Frag} {F : Hp}
theorem flat_V {v : V} {d : D} (r : RepF K F v d) (h : d.flat = true) : flatV v = true := by
  cases r <;> first | rfl | cases h
theorem flat_Vs : ∀ {vs : List V} {ds : List D}, RepFs K F vs ds → ds.all D.flat = true → vs.all flatV = true
  | _, _, .nil, _ => rfl
  | _, _, .cons r t, h => by
    rw [List.all_cons, Bool.and_eq_true] at h ⊢
    exact ⟨flat_V r h.1, flat_Vs t h.2⟩
theorem eqV_D {v u : V} {d e : D} (r : RepF K F v d) (q : RepF K F u e) (h1 : d.flat = true) (h2 : e.flat = true) : L2.eqV v u = D.eqv d e := by
  cases r <;> first
    | cases h1; done
    | (cases q <;> first
        | cases h2; done
        | rfl
        | exact str_beq _ _)
theorem inV_D {v : V} {d : D} (r : RepF K F v d) (h1 : d.flat = true) : ∀ {vs : List V} {ds : List D}, RepFs K F vs ds → ds.all D.flat = true → L2.inV v vs = ds.any fun e => D.eqv e d
  | _, _, .nil, _ => rfl
  | _, _, .cons q t, h => by
    rw [List.all_cons, Bool.and_eq_true] at h
    have := inV_D r h1 t h.2
    unfold L2.inV at this ⊢
    rw [List.any_cons, List.any_cons, this, eqV_D q r h.1 h1]
end
def D.inAny (d : D) : D → Option Bool
  | .lst ds => if okD 60 d && okD 60 (.lst ds) then some (ds.any fun e => D.eqv e d) else none
  | .tup ds => if d.flat && ds.all D.flat then some (ds.any fun e => D.eqv e d) else none
  | .str z => match d with
    | .str [c] => some (decide (c ∈ z))
    | _ => none
  | .dic ks => d.key.map fun _ => (look ks d).isSome
  | _ => none
def gIn : D → D → Option W := fun a b => (a.inAny b).map fun c => .v (.bl c)
def gNotIn : D → D → Option W := fun a b => (a.inAny b).map fun c => .v (.bl (!c))
theorem any_toPy (d : D) (n : Nat) : ∀ (ds : List D), ds.all (okD n) = true → ((D.toPys ds).any fun z => PyData.eqv z d.toPy) = ds.any fun e => D.eqv e d
  | [], _ => rfl
  | x :: xs, h => by
    rw [List.all_cons, Bool.and_eq_true] at h
    show (PyData.eqv _ _ || _) = _
    rw [List.any_cons, eqv_toPy x d n h.1, any_toPy d n xs h.2]
section
variable {X : Cx}
theorem in_ok (hu : X.A.units + 65 < cLine) : OpR X (compareOp .In) (rG X.K gIn) := by
  intro pins s σ H x y v u Q I rx ry h
  obtain ⟨F, R, σ', env, da, db, w, r, va, vb, e, k⟩ := h
  unfold gIn at e
  obtain ⟨c, ec, e⟩ := Option.map_eq_some_iff.mp e
  have e : some (W.v (.bl c)) = some w := congrArg some e
  unfold D.inAny at ec
  split at ec
  · split at ec
    · rename_i ds hk
      rw [Bool.and_eq_true] at hk
      cases ec
      have ra := va.rep r.fH
      have rb := vb.rep r.fH
      refine op_inD hu pins s σ H x y v u Q I rx ry ⟨da.toPy, D.toPys ds, ra.dp 60 hk.1, rb.dp 60 hk.2, ra.shaped hk.1 (by decide), rb.shaped hk.2 (by decide), ?_⟩
      rw [any_toPy da 59 ds hk.2]
      exact scal_bl r e k
    · cases ec
  · split at ec
    · rename_i ds hk
      rw [Bool.and_eq_true] at hk
      cases ec
      obtain ⟨b, ws, rfl, hb, fb, qb⟩ := vb
      have ra := va.rep r.fH
      have qb' := RepFs.mono r.fH qb
      refine op_in_seq pins s σ H x _ v u Q I rx ry ⟨b, ws, rfl, .inr hb, flat_V ra hk.1, flat_Vs qb' hk.2, ?_⟩
      rw [if_neg Bool.false_ne_true, inV_D ra hk.1 qb' hk.2]
      exact scal_bl r e k
    · cases ec
  · split at ec
    · cases ec
      obtain ⟨rfl, _⟩ := RepF.str_eq va
      obtain ⟨rfl, _⟩ := RepF.str_eq vb
      exact op_in_sign pins s σ H _ _ v u Q I rx ry ⟨_, _, rfl, rfl, scal_bl r e k⟩
    · cases ec
  · rename_i ks
    obtain ⟨key, hk, rfl⟩ := Option.map_eq_some_iff.mp ec
    obtain ⟨b, kvs, rfl, hb, qb⟩ := vb
    obtain rfl := key_kV (va.rep r.fH) hk
    cases ry
    rw [key_kD hk] at e
    obtain ⟨l1, l2⟩ := qb.look key
    refine d_in (by omega) I (DGet.k hb) rx fun s' I' => ⟨.bl _, H, I', rfl, ?_⟩
    have : (valV kvs key).isSome = (look ks (kD key)).isSome := by
      cases h : look ks (kD key) with
      | none => rw [l2 h]; rfl
      | some d => obtain ⟨v, hv, _⟩ := l1 d h; rw [hv]; rfl
    rw [this]
    exact scal_bl r e k
  · cases ec
theorem notin_ok (hu : X.A.units + 65 < cLine) : OpR X (compareOp .NotIn) (rG X.K gNotIn) := by
  intro pins s σ H x y v u Q I rx ry h
  obtain ⟨F, R, σ', env, da, db, w, r, va, vb, e, k⟩ := h
  unfold gNotIn at e
  obtain ⟨c, ec, e⟩ := Option.map_eq_some_iff.mp e
  have e : some (W.v (.bl (!c))) = some w := congrArg some e
  unfold D.inAny at ec
  split at ec
  · split at ec
    · rename_i ds hk
      rw [Bool.and_eq_true] at hk
      cases ec
      have ra := va.rep r.fH
      have rb := vb.rep r.fH
      refine op_notInD hu pins s σ H x y v u Q I rx ry ⟨da.toPy, D.toPys ds, ra.dp 60 hk.1, rb.dp 60 hk.2, ra.shaped hk.1 (by decide), rb.shaped hk.2 (by decide), ?_⟩
      rw [any_toPy da 59 ds hk.2]
      exact scal_bl r e k
    · cases ec
  · split at ec
    · rename_i ds hk
      rw [Bool.and_eq_true] at hk
      cases ec
      obtain ⟨b, ws, rfl, hb, fb, qb⟩ := vb
      have ra := va.rep r.fH
      have qb' := RepFs.mono r.fH qb
      refine op_notIn_seq pins s σ H x _ v u Q I rx ry ⟨b, ws, rfl, .inr hb, flat_V ra hk.1, flat_Vs qb' hk.2, ?_⟩
      rw [if_pos rfl, inV_D ra hk.1 qb' hk.2]
      exact scal_bl r e k
    · cases ec
  · split at ec
    · cases ec
      obtain ⟨rfl, _⟩ := RepF.str_eq va
      obtain ⟨rfl, _⟩ := RepF.str_eq vb
      exact op_notIn_sign pins s σ H _ _ v u Q I rx ry ⟨_, _, rfl, rfl, scal_bl r e k⟩
    · cases ec
  · rename_i ks
    obtain ⟨key, hk, rfl⟩ := Option.map_eq_some_iff.mp ec
    obtain ⟨b, kvs, rfl, hb, qb⟩ := vb
    obtain rfl := key_kV (va.rep r.fH) hk
    cases ry
    rw [key_kD hk] at e
    obtain ⟨l1, l2⟩ := qb.look key
    refine d_notIn (by omega) I (DGet.k hb) rx fun s' I' => ⟨.bl _, H, I', rfl, ?_⟩
    have : (valV kvs key).isSome = (look ks (kD key)).isSome := by
      cases h : look ks (kD key) with
      | none => rw [l2 h]; rfl
      | some d => obtain ⟨v, hv, _⟩ := l1 d h; rw [hv]; rfl
    rw [this]
    exact scal_bl r e k
  · cases ec

/-! ### a[i] -/
def gIx : D → D → Option W
  | .lst ds, .int i => (atI ds i).map .v
  | .tup ds, .int i => (atI ds i).map .v
  | .str z, .int i => (atI z i).map fun c => .v (.str [c])
  | .dic ks, k => k.key.bind fun _ => (look ks k).map .v
  | _, _ => none
theorem RepFs.atI {K : PySem.W.Frag} {F : Hp} {vs : List V} {ds : List D} (q : RepFs K F vs ds) {i : Int} {d : D} (h : atI ds i = some d) : ∃ v, L2.atI vs i = some v ∧ RepF K F v d := by
  unfold L2.atI at h ⊢
  rw [q.length]
  obtain ⟨j, hj, h⟩ := Option.bind_eq_some_iff.mp h
  rw [hj]
  exact q.get h
theorem ix_okD (hu : X.A.units + 65 < cLine) : IxR X (rG X.K gIx) := by
  intro value slice pins s σ H x y v u Q I rx ry h hs
  obtain ⟨F, R, σ', env, da, db, w, r, va, vb, e, k⟩ := h
  unfold gIx at e
  split at e
  · obtain ⟨d, hd, e⟩ := Option.map_eq_some_iff.mp e
    obtain ⟨a, vs, rfl, ha, qa⟩ := va
    obtain rfl := RepF.int_eq vb
    obtain ⟨z, hz, qz⟩ := qa.atI hd
    exact ix_list value slice pins s σ H _ _ v u Q I rx ry ⟨a, vs, _, z, rfl, rfl, SqL.of ha, hz, scal_fz r qz (congrArg some e) k⟩ hs
  · obtain ⟨d, hd, e⟩ := Option.map_eq_some_iff.mp e
    obtain ⟨a, vs, rfl, ha, fa, qa⟩ := va
    obtain rfl := RepF.int_eq vb
    obtain ⟨z, hz, qz⟩ := qa.atI hd
    exact ix_tup value slice pins s σ H _ _ v u Q I rx ry ⟨a, vs, _, z, rfl, rfl, ha, hz, scal_fz r qz (congrArg some e) k⟩ hs
  · rename_i z i
    obtain ⟨c, hc, e⟩ := Option.map_eq_some_iff.mp e
    obtain ⟨rfl, ha⟩ := RepF.str_eq va
    obtain rfl := RepF.int_eq vb
    have hm : c ∈ z := by
      unfold L2.atI at hc
      obtain ⟨j, _, hc⟩ := Option.bind_eq_some_iff.mp hc
      exact List.mem_of_getElem? hc
    refine ix_str value slice pins s σ H _ _ v u Q I rx ry ⟨_, _, c, rfl, rfl, by simpa [Str.length] using ha.1, hc, ?_⟩ hs
    exact scal_str r ⟨by show 1 ≤ sizeLine; decide, fun c' h' => by rw [List.mem_singleton.mp h']; exact ha.2 c hm⟩ (congrArg some e) k
  · rename_i ks
    obtain ⟨key, hk, e⟩ := Option.bind_eq_some_iff.mp e
    obtain ⟨d, hd, e⟩ := Option.map_eq_some_iff.mp e
    obtain ⟨b, kvs, rfl, hb, qb⟩ := va
    obtain rfl := key_kV (vb.rep r.fH) hk
    cases rx
    rw [key_kD hk] at hd
    obtain ⟨l1, _⟩ := qb.look key
    obtain ⟨z, hz, qz⟩ := l1 d hd
    have g : DGet H b (kV key) (some z) := by rw [← hz]; exact DGet.k hb
    exact tail_any (dict_typeIs I g) PySem.F.slot_dict_getitem.lookup (d_getItem (by omega) I g ry fun w' s' I' rw' => ⟨z, H, I', rw', scal_fz r qz (congrArg some e) k⟩) hs
  · cases e
theorem pe_ixD {a b : Expr} {fa fb : EV} {pos : Pos} (hu : X.A.units + 65 < cLine) (ha : PE X a (tOf X.K fa)) (hb : PE X b (tOf X.K fb)) (hs : PlainIx b) : PE X (.Subscript a b pos) (tOf X.K (cBin gIx fa fb)) :=
  (pe_ix (ix_okD hu) ha hb hs).imp fun _ _ _ h => cBin_imp h
end
end PD

set_option Elab.async false
set_option linter.all false
set_option maxRecDepth 100000
/-! P6: names, constants, tests, displays, slices. -/
namespace PD
open PySem PySem.Spec L2
open PyProof.Rows hiding St

section
variable {K : PySem.W.Frag} {F F' R H H' : Hp} {σ : L2.St} {env env' : Env} {v : V} {w : W} {a : Addr} {o : Opd} {d : D}
variable {X : Cx} {e : Expr} {es : List Expr} {pos : Pos}
/-! ### names and constants -/
def cVar (i : Nat) : EV := fun env => match gt env i with
  | some (.v d) => some (.val (.v d), env)
  | some (.t d) => some (.val (.t d), env)
  | some _ => some (.ref i, env)
  | none => none
theorem pe_varD {i : Nat} {x : Str} (h : PE X (.Name x pos) (tVar i)) : PE X (.Name x pos) (tOf X.K (cVar i)) := h.imp fun σ H Q ⟨F, R, env, o, env', r, e, k⟩ => by
  unfold cVar at e
  split at e
  · rename_i d hd
    cases e
    obtain ⟨v, h1, h2⟩ := r.slot i _ (gt_some.mp hd)
    exact ⟨v, h1, k v H F (Same.refl F) r (Tm.frozen h2)⟩
  · rename_i d hd
    cases e
    obtain ⟨v, h1, h2⟩ := r.slot i _ (gt_some.mp hd)
    exact ⟨v, h1, k v H F (Same.refl F) r ⟨h2, fun _ z => nomatch z⟩⟩
  · rename_i w hw hw2 hg
    cases e
    obtain ⟨v, h1, h2⟩ := r.slot i _ (gt_some.mp hg)
    exact ⟨v, h1, k v H F (Same.refl F) r h1⟩
  · cases e
def cConst (d : D) : EV := fun env => some (.val (.v d), env)
theorem pe_constD {v : V} (h : PE X e (tC v)) (r0 : ∀ F, RepF X.K F v d) : PE X e (tOf X.K (cConst d)) := h.imp fun σ H Q ⟨F, R, env, o, env', r, e, k⟩ => by
  cases e
  exact k v H F (Same.refl F) r (Tm.frozen (r0 F))

/-! ### tests -/
def bVal (f : EV) : BV := fun env => (f env).bind fun p => match p.1.rd p.2 with
  | some (.bl b) => some (b, p.2)
  | _ => none
theorem bVal_some {f : EV} {b : Bool} (h : bVal f env = some (b, env')) : ∃ o, f env = some (o, env') ∧ o.rd env' = some (.bl b) := by
  unfold bVal at h
  obtain ⟨⟨o, e1⟩, h1, h⟩ := Option.bind_eq_some_iff.mp h
  simp only at h
  split at h
  · rename_i c hc
    cases h
    exact ⟨o, h1, hc⟩
  · cases h
theorem bVal_imp {f : EV} {Q : Bool → Hp → Prop} (h : tbOf K (bVal f) σ H Q) : tOf K f σ H fun x H1 => ∃ c, x = .bl c ∧ Q c H1 := by
  obtain ⟨F, R, env, b, env', r, h, k⟩ := h
  obtain ⟨o, h1, h2⟩ := bVal_some h
  exact ⟨F, R, env, o, env', r, h1, fun v H' F' s' r' q' => ⟨b, RepF.bl_eq (view_ok r' q' h2), k H' F' s' r'⟩⟩
theorem pt_valD {f : EV} (h : PE X e (tOf X.K f)) (he : ∀ whole, isTrue e X.env whole = (do let v ← whole; standAt e.pos; holding [v] (truthy v))) : PT X e (tbOf X.K (bVal f)) := (pt_val h he).imp fun _ _ _ h => bVal_imp h
theorem pt_cmpD {x y : Expr} {fa fb : EV} {op : CmpOp} {g : D → D → Option W} (ho : OpR X (compareOp op) (rG X.K g)) (ha : PE X x (tOf X.K fa)) (hb : PE X y (tOf X.K fb)) (hm : behindInMarks op y = false) : PT X (.Compare x [op] [y] pos) (tbOf X.K (bVal (cBin g fa fb))) :=
  (pt_cmpR ho ha hb hm).imp fun _ _ _ h => cBin_imp (bVal_imp h)

def cChain (g g' : D → D → Option W) (fa fb fc : EV) : EV := fun env => (fa env).bind fun p => (fb p.2).bind fun q => (p.1.rd q.2).bind fun da => (q.1.rd q.2).bind fun db => (g da db).bind fun w => match w with
  | .v (.bl false) => some (.val (.v (.bl false)), q.2)
  | .v (.bl true) => (fc q.2).bind fun t => (q.1.rd t.2).bind fun db' => (t.1.rd t.2).bind fun dc => (g' db' dc).map fun w' => (.val w', t.2)
  | _ => none
theorem RepO.keepIn {H1 : Hp} {F1 : Hp} {env1 : Env} (q : RepO K F R H σ env v o) (s : Same F F1) (r : Rp K F1 (frm R H (oO o v)) H1 σ env1) : RepO K F1 R H1 σ env1 v o := (frame_out r s q).2
theorem cChain_imp {g g' : D → D → Option W} {fa fb fc : EV} {Q : VK} (h : tOf K (cChain g g' fa fb fc) σ H Q) : tChain (rG K g) (rG K g') (tOf K fa) (tOf K fb) (tOf K fc) σ H Q := by
  obtain ⟨F, R, env, o, env', r, h, k⟩ := h
  unfold cChain at h
  obtain ⟨⟨oa, e1⟩, h1, h⟩ := Option.bind_eq_some_iff.mp h
  obtain ⟨⟨ob, e2⟩, h2, h⟩ := Option.bind_eq_some_iff.mp h
  obtain ⟨da, h3, h⟩ := Option.bind_eq_some_iff.mp h
  obtain ⟨db, h4, h⟩ := Option.bind_eq_some_iff.mp h
  obtain ⟨w, h5, h⟩ := Option.bind_eq_some_iff.mp h
  refine two r h1 h2 fun x y H2 F2 s2 r2 q2 => ?_
  cases q2 with
  | cons qa _ t =>
    cases t with
    | cons qb _ _ =>
      have r2' := frame_in r2 qb
      refine ⟨F2, frm R H2 (oO ob y), σ, e2, da, db, w, r2', view_ok r2 qa h3, view_ok r2 qb h4, h5, fun v H3 F3 s3 r3 t3 => ?_⟩
      simp only at h
      split at h
      · cases h
        obtain rfl := RepF.bl_eq (F := F3) (show RepF K F3 v (.bl false) from t3.rep)
        obtain ⟨r4, q4⟩ := frame_out r3 s3 qb
        refine ⟨false, rfl, ?_⟩
        rw [if_neg Bool.false_ne_true]
        exact k _ H3 F3 (s2.trans s3) r4 (Tm.frozen (.bl false))
      · obtain rfl := RepF.bl_eq (F := F3) (show RepF K F3 v (.bl true) from t3.rep)
        obtain ⟨⟨oc, e3⟩, h6, h⟩ := Option.bind_eq_some_iff.mp h
        obtain ⟨db', h7, h⟩ := Option.bind_eq_some_iff.mp h
        obtain ⟨dc, h8, h⟩ := Option.bind_eq_some_iff.mp h
        obtain ⟨w', h9, h⟩ := Option.map_eq_some_iff.mp h
        cases h
        refine ⟨true, rfl, ?_⟩
        rw [if_pos rfl]
        refine ⟨F3, frm R H2 (oO ob y), e2, oc, e3, r3, h6, fun z H4 F4 s4 r4 q4 => ?_⟩
        obtain ⟨r5, q5⟩ := frame_out r4 (s3.trans s4) qb
        exact ⟨F4, R, σ, e3, db', dc, w', r5, view_ok r5 q5 h7, view_ok r4 q4 h8, h9, fun v5 H5 F5 s5 r6 t6 => k v5 H5 F5 (s2.trans (s3.trans (s4.trans s5))) r6 t6⟩
      · cases h
theorem pe_chainD {x y z : Expr} {fa fb fc : EV} {op op' : CmpOp} {g g' : D → D → Option W} (ho : OpR X (compareOp op) (rG X.K g)) (ho' : OpR X (compareOp op') (rG X.K g')) (ha : PE X x (tOf X.K fa)) (hb : PE X y (tOf X.K fb)) (hc : PE X z (tOf X.K fc))
    (hm : lastMarks [op, op'] [y, z] = false) : PE X (.Compare x [op, op'] [y, z] pos) (tOf X.K (cChain g g' fa fb fc)) := (pe_chain ho ho' ha hb hc hm).imp fun _ _ _ h => cChain_imp h
theorem pt_chainD {x y z : Expr} {fa fb fc : EV} {op op' : CmpOp} {g g' : D → D → Option W} (ho : OpR X (compareOp op) (rG X.K g)) (ho' : OpR X (compareOp op') (rG X.K g')) (ha : PE X x (tOf X.K fa)) (hb : PE X y (tOf X.K fb)) (hc : PE X z (tOf X.K fc))
    (hm : lastMarks [op, op'] [y, z] = false) : PT X (.Compare x [op, op'] [y, z] pos) (tbOf X.K (bVal (cChain g g' fa fb fc))) := (pt_chain ho ho' ha hb hc hm).imp fun _ _ _ h => cChain_imp (bVal_imp h)

def bAnd (f g : BV) : BV := fun env => (f env).bind fun p => if p.1 then g p.2 else some (false, p.2)
def bOr (f g : BV) : BV := fun env => (f env).bind fun p => if p.1 then some (true, p.2) else g p.2
def bNot (f : BV) : BV := fun env => (f env).map fun p => (!p.1, p.2)
theorem bAnd_imp {f g : BV} {Q : Bool → Hp → Prop} (h : tbOf K (bAnd f g) σ H Q) : tAnd (tbOf K f) (tbOf K g) σ H Q := by
  obtain ⟨F, R, env, b, env', r, h, k⟩ := h
  unfold bAnd at h
  obtain ⟨⟨c, e1⟩, h1, h⟩ := Option.bind_eq_some_iff.mp h
  refine ⟨F, R, env, c, e1, r, h1, fun H' F' s' r' => ?_⟩
  cases c with
  | true => rw [if_pos rfl]; exact ⟨F', R, e1, b, env', r', h, fun H2 F2 s2 r2 => k H2 F2 (s'.trans s2) r2⟩
  | false => rw [if_neg Bool.false_ne_true]; cases h; exact k H' F' s' r'
theorem bOr_imp {f g : BV} {Q : Bool → Hp → Prop} (h : tbOf K (bOr f g) σ H Q) : tOr (tbOf K f) (tbOf K g) σ H Q := by
  obtain ⟨F, R, env, b, env', r, h, k⟩ := h
  unfold bOr at h
  obtain ⟨⟨c, e1⟩, h1, h⟩ := Option.bind_eq_some_iff.mp h
  refine ⟨F, R, env, c, e1, r, h1, fun H' F' s' r' => ?_⟩
  cases c with
  | false => rw [if_neg Bool.false_ne_true]; exact ⟨F', R, e1, b, env', r', h, fun H2 F2 s2 r2 => k H2 F2 (s'.trans s2) r2⟩
  | true => rw [if_pos rfl]; cases h; exact k H' F' s' r'
theorem pw_andD {x y : Expr} {rest : List Expr} {f g : BV} (ha : PT X x (tbOf X.K f)) (hb : PW X (.BoolOp .And (y :: rest) pos) (tbOf X.K g)) : PW X (.BoolOp .And (x :: y :: rest) pos) (tbOf X.K (bAnd f g)) := (pw_and ha hb).imp fun _ _ _ h => bAnd_imp h
theorem pw_orD {x y : Expr} {rest : List Expr} {f g : BV} (ha : PT X x (tbOf X.K f)) (hb : PW X (.BoolOp .Or (y :: rest) pos) (tbOf X.K g)) : PW X (.BoolOp .Or (x :: y :: rest) pos) (tbOf X.K (bOr f g)) := (pw_or ha hb).imp fun _ _ _ h => bOr_imp h
theorem pt_notD {x : Expr} {f : BV} (ha : PT X x (tbOf X.K f)) : PT X (.UnaryOp .Not x pos) (tbOf X.K (bNot f)) := (pt_not ha).imp fun σ H Q ⟨F, R, env, b, env', r, h, k⟩ => by
  unfold bNot at h
  obtain ⟨⟨c, e1⟩, h1, h⟩ := Option.map_eq_some_iff.mp h
  cases h
  exact ⟨F, R, env, c, e1, r, h1, k⟩

/-! ### the same as values -/
def cAnd (f g : EV) : EV := fun env => (bVal f env).bind fun p => if p.1 then g p.2 else some (.val (.v (.bl false)), p.2)
def cOr (f g : EV) : EV := fun env => (bVal f env).bind fun p => if p.1 then some (.val (.v (.bl true)), p.2) else g p.2
def cNot (f : EV) : EV := fun env => (bVal f env).map fun p => (.val (.v (.bl (!p.1))), p.2)
theorem pe_andD {x y : Expr} {rest : List Expr} {f g : EV} (ha : PE X x (tOf X.K f)) (hb : PE X (.BoolOp .And (y :: rest) pos) (tOf X.K g)) : PE X (.BoolOp .And (x :: y :: rest) pos) (tOf X.K (cAnd f g)) := (pe_and ha hb).imp fun σ H Q ⟨F, R, env, o, env', r, h, k⟩ => by
  unfold cAnd at h
  obtain ⟨⟨c, e1⟩, h1, h⟩ := Option.bind_eq_some_iff.mp h
  refine bVal_imp ⟨F, R, env, c, e1, r, h1, fun H' F' s' r' => ?_⟩
  cases c with
  | true => rw [if_pos rfl]; exact ⟨F', R, e1, o, env', r', h, fun v H2 F2 s2 r2 q2 => k v H2 F2 (s'.trans s2) r2 q2⟩
  | false => rw [if_neg Bool.false_ne_true]; cases h; exact k _ H' F' s' r' (Tm.frozen (.bl false))
theorem pe_orD {x y : Expr} {rest : List Expr} {f g : EV} (ha : PE X x (tOf X.K f)) (hb : PE X (.BoolOp .Or (y :: rest) pos) (tOf X.K g)) : PE X (.BoolOp .Or (x :: y :: rest) pos) (tOf X.K (cOr f g)) := (pe_or ha hb).imp fun σ H Q ⟨F, R, env, o, env', r, h, k⟩ => by
  unfold cOr at h
  obtain ⟨⟨c, e1⟩, h1, h⟩ := Option.bind_eq_some_iff.mp h
  refine bVal_imp ⟨F, R, env, c, e1, r, h1, fun H' F' s' r' => ?_⟩
  cases c with
  | false => rw [if_neg Bool.false_ne_true]; exact ⟨F', R, e1, o, env', r', h, fun v H2 F2 s2 r2 q2 => k v H2 F2 (s'.trans s2) r2 q2⟩
  | true => rw [if_pos rfl]; cases h; exact k _ H' F' s' r' (Tm.frozen (.bl true))
theorem pe_notD {x : Expr} {f : EV} (ha : PE X x (tOf X.K f)) : PE X (.UnaryOp .Not x pos) (tOf X.K (cNot f)) := (pe_not ha).imp fun σ H Q ⟨F, R, env, o, env', r, h, k⟩ => by
  unfold cNot at h
  obtain ⟨⟨c, e1⟩, h1, h⟩ := Option.map_eq_some_iff.mp h
  cases h
  exact bVal_imp ⟨F, R, env, c, e1, r, h1, fun H' F' s' r' => k _ H' F' s' r' (Tm.frozen (.bl _))⟩
def cIf (b : BV) (f g : EV) : EV := fun env => (b env).bind fun p => if p.1 then f p.2 else g p.2
theorem pe_ifD {c x y : Expr} {b : BV} {f g : EV} (hc : PT X c (tbOf X.K b)) (ha : PE X x (tOf X.K f)) (hb : PE X y (tOf X.K g)) : PE X (.IfExp c x y pos) (tOf X.K (cIf b f g)) := (pe_ifExp hc ha hb).imp fun σ H Q ⟨F, R, env, o, env', r, h, k⟩ => by
  unfold cIf at h
  obtain ⟨⟨d, e1⟩, h1, h⟩ := Option.bind_eq_some_iff.mp h
  refine ⟨F, R, env, d, e1, r, h1, fun H' F' s' r' => ?_⟩
  cases d with
  | true => rw [if_pos rfl]; exact ⟨F', R, e1, o, env', r', h, fun v H2 F2 s2 r2 q2 => k v H2 F2 (s'.trans s2) r2 q2⟩
  | false => rw [if_neg Bool.false_ne_true]; exact ⟨F', R, e1, o, env', r', h, fun v H2 F2 s2 r2 q2 => k v H2 F2 (s'.trans s2) r2 q2⟩
def cNeg (f : EV) : EV := fun env => (f env).bind fun p => match p.1.rd p.2 with
  | some (.int i) => some (.val (.v (.int (-i))), p.2)
  | _ => none
theorem pe_negD {x : Expr} {f : EV} (ha : PE X x (tOf X.K f)) : PE X (.UnaryOp .USub x pos) (tOf X.K (cNeg f)) := (pe_un un_neg ha).imp fun σ H Q ⟨F, R, env, o, env', r, h, k⟩ => by
  unfold cNeg at h
  obtain ⟨⟨o1, e1⟩, h1, h⟩ := Option.bind_eq_some_iff.mp h
  simp only at h
  split at h
  · rename_i i hi
    cases h
    exact ⟨F, R, env, o1, _, r, h1, fun v H' F' s' r' q' => ⟨i, RepF.int_eq (view_ok r' q' hi), k _ H' F' s' r' (Tm.frozen (.int _))⟩⟩
  · cases h

/-! ### displays -/
def cLst (g : AV) : EV := fun env => (g env).bind fun p => if p.1.length ≤ sizeLine then (frzs p.1 p.2).map fun q => (.val (.l q.1), q.2) else none
def cTup (g : AV) : EV := fun env => (g env).bind fun p => if p.1.length ≤ sizeLine then (frzs p.1 p.2).map fun q => (.val (.t q.1), q.2) else none
theorem pe_lstD {g : AV} (h : PA X es (taOf X.K g)) : PE X (.List es pos) (tOf X.K (cLst g)) := (pe_lst h).imp fun σ H Q ⟨F, R, env, o, env', r, h, k⟩ => by
  unfold cLst at h
  obtain ⟨⟨os, e1⟩, h1, h⟩ := Option.bind_eq_some_iff.mp h
  simp only at h
  split at h
  · rename_i hl
    obtain ⟨⟨ds, e2⟩, h2, h⟩ := Option.map_eq_some_iff.mp h
    cases h
    refine ⟨F, R, env, os, e1, r, h1, fun vs H' F' s' r' q' => ⟨by rw [q'.length]; exact hl, fun p hp => ?_⟩⟩
    obtain ⟨F2, s2, r2, q2⟩ := frzs_ok r' q' h2
    obtain ⟨r3, t3⟩ := new_lst r2 q2 hp
    exact k _ _ F2 (s'.trans s2) r3 t3
  · cases h
theorem pe_tupX {x1} {t : TA} (h : PA X es t) : PE X (.Tuple es x1 pos) (fun σ H Q => t σ H fun xs H1 => xs.length ≤ sizeLine ∧ ∀ p ob, H1 p = none → ob.dict = none → Q (.ref p) (upd H1 p (.frz ob (.tup xs)))) := by
  refine ⟨fun pins s σ H Q I hq => ?_⟩
  refine wpAny_Tuple_spliced (thn (h.run pos pins s σ H _ I hq) fun us s1 ⟨xs, H1, I1, r, z, q⟩ => ⟨by rw [← r.length]; exact z, ?_⟩)
  have hf : H1 s1.heap.objs.size = none := I1.hok.fresh (Nat.le_refl _)
  refine ⟨.ref s1.heap.objs.size, upd H1 s1.heap.objs.size (.frz { cls := .type "tuple", data := .seq us.toArray } (.tup xs)), I1.laid (t' := s1.toks) (fun b u e => Heap.get?_push_of_some _ e) (Nat.le_refl _) ?_, rfl, q _ _ hf rfl⟩
  exact ⟨Heap.get?_push_size _ rfl, z, us, r, ⟨_, Heap.get?_push_size _ rfl, rfl, _, rfl⟩⟩
theorem pe_tupD {g : AV} {x1} (h : PA X es (taOf X.K g)) : PE X (.Tuple es x1 pos) (tOf X.K (cTup g)) := (pe_tupX h).imp fun σ H Q ⟨F, R, env, o, env', r, h, k⟩ => by
  unfold cTup at h
  obtain ⟨⟨os, e1⟩, h1, h⟩ := Option.bind_eq_some_iff.mp h
  simp only at h
  split at h
  · rename_i hl
    obtain ⟨⟨ds, e2⟩, h2, h⟩ := Option.map_eq_some_iff.mp h
    cases h
    refine ⟨F, R, env, os, e1, r, h1, fun vs H' F' s' r' q' => ⟨by rw [q'.length]; exact hl, fun p ob hp hd => ?_⟩⟩
    obtain ⟨F2, s2, r2, q2⟩ := frzs_ok r' q' h2
    obtain ⟨s3, r3, t3⟩ := new_tupX r2 q2 hp hd
    exact k _ _ _ (s'.trans (s2.trans s3)) r3 ⟨t3, fun _ z => nomatch z⟩
  · cases h
/-- the items of a list or tuple -/
def D.els : D → Option (List D)
  | .lst ds => some ds
  | .tup ds => some ds
  | _ => none
def argsS (f : EV) (g : AV) : AV := fun env => (f env).bind fun p => (p.1.rd p.2).bind fun d => d.els.bind fun ds => (g p.2).map fun q => (ds.map (fun d => Opd.val (.v d)) ++ q.1, q.2)
theorem ownL_none {vs : List V} {os : List Opd} (h : oO o v = none) : ownL (v :: vs) (o :: os) = ownL vs os := by
  conv => lhs; unfold ownL
  rw [h]
theorem ownL_vals {vs' : List V} {os : List Opd} : ∀ {vs : List V} {ds : List D}, RepFs K F vs ds → ownL (vs ++ vs') (ds.map (fun d => Opd.val (.v d)) ++ os) = ownL vs' os
  | _, _, .nil => rfl
  | v :: vs, d :: ds, .cons r t => by
    show ownL (v :: (vs ++ vs')) (Opd.val (.v d) :: (ds.map (fun d => Opd.val (.v d)) ++ os)) = _
    rw [ownL_none rfl]
    exact ownL_vals t
theorem RepOs.vals {vs' : List V} {os : List Opd} (q : RepOs K F R H σ env vs' os) : ∀ {vs : List V} {ds : List D}, RepFs K F vs ds → RepOs K F R H σ env (vs ++ vs') (ds.map (fun d => Opd.val (.v d)) ++ os)
  | _, _, .nil => q
  | v :: vs, d :: ds, .cons r t => .cons (show RepO K F R H σ env v (.val (.v d)) from Tm.frozen r) (fun a e => nomatch e) (RepOs.vals q t)
theorem els_ok {ds : List D} (h : View K F H v d) (e : d.els = some ds) : ∃ a vs, v = .ref a ∧ (SqT K H a vs ∨ SqL K H a vs) ∧ RepFs K F vs ds := by
  cases d <;> first
    | (cases e; done)
    | (cases e
       obtain ⟨a, vs, rfl, ha, qa⟩ := h
       exact ⟨a, vs, rfl, .inr (SqL.of ha), qa⟩)
    | (cases e
       obtain ⟨a, vs, rfl, ha, fa, qa⟩ := h
       exact ⟨a, vs, rfl, .inl ha, qa⟩)
theorem pad_star {f : EV} {g : AV} {p : Pos} (ha : PE X e (tOf X.K f)) (hr : PA X es (taOf X.K g)) (hs : starEach (.Starred e p :: es) X.env = (true, eval e X.env) :: starEach es X.env) : PA X (.Starred e p :: es) (taOf X.K (argsS f g)) :=
  (StX.pa_star ha hr hs).imp fun σ H Q ⟨F, R, env, os, env', r, h, k⟩ => by
    unfold argsS at h
    obtain ⟨⟨o, e1⟩, h1, h⟩ := Option.bind_eq_some_iff.mp h
    obtain ⟨d, h2, h⟩ := Option.bind_eq_some_iff.mp h
    obtain ⟨ds, h3, h⟩ := Option.bind_eq_some_iff.mp h
    obtain ⟨⟨os', e2⟩, h4, h⟩ := Option.map_eq_some_iff.mp h
    cases h
    refine ⟨F, R, env, o, e1, r, h1, fun x H1 F1 s1 r1 q1 => ?_⟩
    obtain ⟨a, vs, rfl, ha, qa⟩ := els_ok (view_ok r1 q1 h2) h3
    refine ⟨a, vs, rfl, ha, F1, R, e1, os', e2, r1, h4, fun ys H2 F2 s2 r2 q2 => ?_⟩
    exact k _ H2 F2 (s1.trans s2) r2 (q2.vals (RepFs.mono s2 qa))

/-! ### slices -/
def cutG {α : Type} (xs : List α) (lo hi : Option Int) : List α := (xs.drop (HT.sIx xs.length 0 lo)).take (HT.sIx xs.length xs.length hi - HT.sIx xs.length 0 lo)
def gSl : D → Option Int → Option Int → Option W
  | .lst ds, lo, hi => some (.l (cutG ds lo hi))
  | .tup ds, lo, hi => some (.v (.tup (cutG ds lo hi)))
  | .str z, lo, hi => some (.v (.str (cutG z lo hi)))
  | _, _, _ => none
def rSG (K : PySem.W.Frag) : V → Option Int → Option Int → Hp → VK → Prop := fun x lo hi H Q => ∃ F R σ env da w, Rp K F R H σ env ∧ View K F H x da ∧ gSl da lo hi = some w ∧ ∀ v H' F', Same F F' → Rp K F' R H' σ env → Tm K F' R H' σ env v w → Q v H'
theorem RepFs.cut {vs : List V} {ds : List D} (q : RepFs K F vs ds) (lo hi : Option Int) : RepFs K F (cutV vs lo hi) (cutG ds lo hi) := by
  unfold cutV cutG
  rw [q.length]
  exact (q.drop _).take _
theorem cut_whole {α : Type} {xs : List α} {lo hi : Option Int} (h : HT.sIx xs.length 0 lo = 0 ∧ HT.sIx xs.length xs.length hi = xs.length) : cutG xs lo hi = xs := by
  unfold cutG
  rw [h.1, h.2]
  simp
theorem sl_okD : SlR X (rSG X.K) := by
  intro pins s σ H x v vl vu lo hi sl Q I rx hs pl pu h
  obtain ⟨F, R, σ', env, da, w, r, va, e, k⟩ := h
  unfold gSl at e
  split at e
  · obtain ⟨a, vs, rfl, ha, qa⟩ := va
    exact sl_list pins s σ H _ v vl vu _ _ sl Q I rx hs pl pu ⟨a, vs, rfl, SqL.of ha, scal_lst r (qa.cut _ _) e k⟩
  · obtain ⟨a, vs, rfl, ha, fa, qa⟩ := va
    refine sl_tupA pins s σ H _ v vl vu _ _ sl Q I rx hs pl pu ⟨a, vs, rfl, ha, fun hw => ?_, fun _ => scal_tup r (qa.cut _ _) e k⟩
    rw [qa.length] at hw
    rw [cut_whole hw] at e
    exact scal_fz r (.tup fa qa) e k
  · obtain ⟨rfl, ha⟩ := RepF.str_eq va
    rename_i z
    refine sl_str pins s σ H _ v vl vu _ _ sl Q I rx hs pl pu ⟨_, rfl, by simpa [Str.length] using ha.1, ?_⟩
    have : cutS ⟨z.toArray⟩ lo hi = ⟨(cutG z lo hi).toArray⟩ := TL.ext_tl (by simp [cutS, cutG, TL.tl, Str.length])
    rw [this]
    exact scal_str r (ha.sub ((List.take_sublist _ _).trans (List.drop_sublist _ _))) e k
  · cases e
abbrev PV := Env → Option (Option Int × Env)
def pNo : PV := fun env => some (none, env)
def pAt (f : EV) : PV := fun env => (f env).bind fun p => match p.1.rd p.2 with
  | some (.int i) => some (some i, p.2)
  | _ => none
def tpOf (K : PySem.W.Frag) (f : PV) : TO := fun σ H Q => ∃ F R env o env', Rp K F R H σ env ∧ f env = some (o, env') ∧ ∀ H' F', Same F F' → Rp K F' R H' σ env' → Q o H'
theorem _root_.L2.PO.imp {x : Option Expr} {t t' : TO} (h : PO X x t) (k : ∀ σ H Q, t' σ H Q → t σ H Q) : PO X x t' := ⟨fun p s σ H Q I q => h.run p s σ H Q I (k σ H Q q)⟩
theorem po_noD : PO X none (tpOf X.K pNo) := po_none.imp fun σ H Q ⟨F, R, env, o, env', r, h, k⟩ => by
  cases h
  exact k H F (Same.refl F) r
theorem po_atD {f : EV} (h : PE X e (tOf X.K f)) : PO X (some e) (tpOf X.K (pAt f)) := (po_some h).imp fun σ H Q ⟨F, R, env, o, env', r, h, k⟩ => by
  unfold pAt at h
  obtain ⟨⟨o1, e1⟩, h1, h⟩ := Option.bind_eq_some_iff.mp h
  simp only at h
  split at h
  · rename_i i hi
    cases h
    exact ⟨F, R, env, o1, _, r, h1, fun v H' F' s' r' q' => ⟨i, RepF.int_eq (view_ok r' q' hi), k H' F' s' r'⟩⟩
  · cases h
def cSl (f : EV) (lo hi : PV) : EV := fun env => (f env).bind fun p => (lo p.2).bind fun q => (hi q.2).bind fun t => (p.1.rd t.2).bind fun d => (gSl d q.1 t.1).map fun w => (.val w, t.2)
theorem pe_slD {f : EV} {l u : Option Expr} {lo hi : PV} {p2 : Pos} (he : PE X e (tOf X.K f)) (hl : PO X l (tpOf X.K lo)) (hu : PO X u (tpOf X.K hi)) : PE X (.Subscript e (.Slice l u none p2) pos) (tOf X.K (cSl f lo hi)) :=
  (pe_slice sl_okD he hl hu).imp fun σ H Q ⟨F, R, env, o, env', r, h, k⟩ => by
    unfold cSl at h
    obtain ⟨⟨o1, e1⟩, h1, h⟩ := Option.bind_eq_some_iff.mp h
    obtain ⟨⟨l1, e2⟩, h2, h⟩ := Option.bind_eq_some_iff.mp h
    obtain ⟨⟨u1, e3⟩, h3, h⟩ := Option.bind_eq_some_iff.mp h
    obtain ⟨d, h4, h⟩ := Option.bind_eq_some_iff.mp h
    obtain ⟨w, h5, h⟩ := Option.map_eq_some_iff.mp h
    cases h
    refine ⟨F, R, env, o1, e1, r, h1, fun x H1 F1 s1 r1 q1 => ?_⟩
    refine ⟨F1, frm R H1 (oO o1 x), e1, l1, e2, frame_in r1 q1, h2, fun H2 F2 s2 r2 => ?_⟩
    refine ⟨F2, frm R H1 (oO o1 x), e2, u1, e3, r2, h3, fun H3 F3 s3 r3 => ?_⟩
    obtain ⟨r4, q4⟩ := frame_out r3 (s2.trans s3) q1
    exact ⟨F3, R, σ, e3, d, w, r4, view_ok r4 q4 h4, h5, fun v H' F' s' r' t' => k v H' F' (s1.trans (s2.trans (s3.trans s'))) r' t'⟩
end
end PD

set_option Elab.async false
set_option linter.all false
set_option maxRecDepth 100000
/-! P7: statements: blocks, stores, if, return, while. -/
namespace PD
open PySem PySem.Spec L2
open PyProof.Rows hiding St

section
variable {K : PySem.W.Frag} {F F' R H H' : Hp} {σ : L2.St} {env env' : Env} {v : V} {w : W} {a : Addr} {o : Opd} {d : D} {P : List Nat}
variable {X : Cx} {e : Expr} {es : List Expr} {st : Stmt} {rest : List Stmt} {pos : Pos}
def sNil : SV := fun env => some (.nx, env)
def seqS (f g : SV) : SV := fun env => (f env).bind fun p => match p.1 with
  | .nx => g p.2
  | _ => some p
theorem pssD_nil : PSs X [] (tsOf X.K P sNil) := pss_nil.imp fun D σ H ⟨F, R, env, fl, env', r, h, k⟩ => by
  cases h
  exact k σ H F (Same.refl F) r fun _ _ => rfl
theorem seqS_some {f g : SV} {fl : Fl} (h : seqS f g env = some (fl, env')) : (∃ e1, f env = some (.nx, e1) ∧ g e1 = some (fl, env')) ∨ (fl ≠ .nx ∧ f env = some (fl, env')) := by
  unfold seqS at h
  obtain ⟨⟨fl1, e1⟩, h1, h⟩ := Option.bind_eq_some_iff.mp h
  cases fl1 with
  | nx => exact .inl ⟨e1, h1, h⟩
  | bk => cases h; exact .inr ⟨(fun z => nomatch z), h1⟩
  | ct => cases h; exact .inr ⟨(fun z => nomatch z), h1⟩
  | rt w => cases h; exact .inr ⟨(fun z => nomatch z), h1⟩
theorem seqS_imp {f g : SV} {D : Ends} (h : tsOf K P (seqS f g) D σ H) : tSeq (tsOf K P f) (tsOf K P g) D σ H := by
  obtain ⟨F, R, env, fl, env', r, h, k⟩ := h
  rcases seqS_some h with ⟨e1, h1, h2⟩ | ⟨n, h1⟩
  · exact ⟨F, R, env, .nx, e1, r, h1, fun σ' H' F' s' r' p' => ⟨F', R, e1, fl, env', r', h2, fun σ2 H2 F2 s2 r2 p2 => k σ2 H2 F2 (s'.trans s2) r2 fun j hj => (p2 j hj).trans (p' j hj)⟩⟩
  · refine ⟨F, R, env, fl, env', r, h1, fun σ' H' F' s' r' p' => ?_⟩
    have q := k σ' H' F' s' r' p'
    cases fl with
    | nx => exact absurd rfl n
    | bk => exact q
    | ct => exact q
    | rt w => exact q
theorem pssD_cons {f g : SV} (h1 : PS X st (tsOf X.K P f)) (h2 : PSs X rest (tsOf X.K P g)) : PSs X (st :: rest) (tsOf X.K P (seqS f g)) := (pss_cons h1 h2).imp fun _ _ _ h => seqS_imp h
theorem pssD_one {f : SV} (h1 : PS X st (tsOf X.K P f)) : PSs X [st] (tsOf X.K P f) := pss_one h1

/-! ### small statements -/
def sBk : SV := fun env => some (.bk, env)
def sCt : SV := fun env => some (.ct, env)
theorem psD_pass : PS X (.Pass pos) (tsOf X.K P sNil) := ps_pass.imp fun D σ H ⟨F, R, env, fl, env', r, h, k⟩ => by
  cases h
  exact k σ H F (Same.refl F) r fun _ _ => rfl
theorem psD_break : PS X (.Break pos) (tsOf X.K P sBk) := ps_break.imp fun D σ H ⟨F, R, env, fl, env', r, h, k⟩ => by
  cases h
  exact k σ H F (Same.refl F) r fun _ _ => rfl
theorem psD_continue : PS X (.Continue pos) (tsOf X.K P sCt) := ps_continue.imp fun D σ H ⟨F, R, env, fl, env', r, h, k⟩ => by
  cases h
  exact k σ H F (Same.refl F) r fun _ _ => rfl
def sExpr (f : EV) : SV := fun env => (f env).map fun p => (.nx, p.2)
theorem psD_expr {f : EV} (he : PE X e (tOf X.K f)) (hs : swapsWith e none pos.line X.env = pure false) : PS X (.Expr e pos) (tsOf X.K P (sExpr f)) := (ps_expr he hs).imp fun D σ H ⟨F, R, env, fl, env', r, h, k⟩ => by
  unfold sExpr at h
  obtain ⟨⟨o, e1⟩, h1, h⟩ := Option.map_eq_some_iff.mp h
  cases h
  exact ⟨F, R, env, o, e1, r, h1, fun v H' F' s' r' _ => k σ H' F' s' r' fun _ _ => rfl⟩
def sIf (b : BV) (f g : SV) : SV := fun env => (b env).bind fun p => if p.1 then f p.2 else g p.2
theorem psD_if {c : Expr} {x y : List Stmt} {b : BV} {f g : SV} (hc : PT X c (tbOf X.K b)) (ha : PSs X x (tsOf X.K P f)) (hb : PSs X y (tsOf X.K P g)) : PS X (.If c x y pos) (tsOf X.K P (sIf b f g)) := (ps_if hc ha hb).imp fun D σ H ⟨F, R, env, fl, env', r, h, k⟩ => by
  unfold sIf at h
  obtain ⟨⟨d, e1⟩, h1, h⟩ := Option.bind_eq_some_iff.mp h
  refine ⟨F, R, env, d, e1, r, h1, fun H' F' s' r' => ?_⟩
  cases d with
  | true => rw [if_pos rfl]; exact ⟨F', R, e1, fl, env', r', h, fun σ2 H2 F2 s2 r2 p2 => k σ2 H2 F2 (s'.trans s2) r2 p2⟩
  | false => rw [if_neg Bool.false_ne_true]; exact ⟨F', R, e1, fl, env', r', h, fun σ2 H2 F2 s2 r2 p2 => k σ2 H2 F2 (s'.trans s2) r2 p2⟩

/-! ### stores -/
/-- what a store takes of an operand: a temporary whole, a slot's object frozen -/
def Opd.take : Opd → Env → Option (W × Env)
  | .val w, env => some (w, env)
  | .ref i, env => (gt env i).map fun w => (.v w.d, env.set i (some (.v w.d)))
theorem take_ok (r : Rp K F R H σ env) (q : RepO K F R H σ env v o) (e : o.take env = some (w, env')) : ∃ F', Same F F' ∧ Rp K F' R H σ env' ∧ Tm K F' R H σ env' v w := by
  cases o with
  | val w =>
    cases e
    exact ⟨F, Same.refl F, r, q⟩
  | ref i =>
    have e : (gt env i).map (fun w => (W.v w.d, env.set i (some (.v w.d)))) = some (w, env') := e
    obtain ⟨w1, h1, e⟩ := Option.map_eq_some_iff.mp e
    cases e
    obtain ⟨F', s', r', q', _⟩ := frz_ok (o := .ref i) (d := w1.d) (env' := env.set i (some (.v w1.d))) r q (by show (gt env i).map _ = _; rw [h1]; rfl)
    exact ⟨F', s', r', Tm.frozen q'⟩
def sSet (i : Nat) (f : EV) : SV := fun env => (f env).bind fun p => (p.1.take p.2).map fun q => (.nx, q.2.set i (some q.1))
theorem set_other {i j : Nat} {σ : L2.St} {x : Option V} (h : i ≠ j) : (σ.set i x)[j]? = σ[j]? := List.getElem?_set_ne h
theorem psD_set {i : Nat} {f : EV} (hp : i ∉ P) (h : PS X st (tAsg (tOf X.K f) (gName i))) : PS X st (tsOf X.K P (sSet i f)) := h.imp fun D σ H ⟨F, R, env, fl, env', r, h, k⟩ => by
  unfold sSet at h
  obtain ⟨⟨o, e1⟩, h1, h⟩ := Option.bind_eq_some_iff.mp h
  obtain ⟨⟨w, e2⟩, h2, h⟩ := Option.map_eq_some_iff.mp h
  cases h
  refine ⟨F, R, env, o, e1, r, h1, fun v H' F' s' r' q' => ?_⟩
  obtain ⟨F2, s2, r2, t2⟩ := take_ok r' q' h2
  exact k _ H' F2 (s'.trans s2) (r2.put t2) fun j hj => set_other fun z => hp (z ▸ hj)
def sRet (P : List Nat) (f : EV) : SV := fun env => (f env).bind fun p => match p.1 with
  | .val w => some (.rt w, p.2)
  | .ref j => if j ∈ P then none else (gt p.2 j).map fun w => (.rt w, p.2.set j none)
theorem psD_ret {f : EV} (he : PE X e (tOf X.K f)) : PS X (.Return (some e) pos) (tsOf X.K P (sRet P f)) := (ps_ret he).imp fun D σ H ⟨F, R, env, fl, env', r, h, k⟩ => by
  unfold sRet at h
  obtain ⟨⟨o, e1⟩, h1, h⟩ := Option.bind_eq_some_iff.mp h
  refine ⟨F, R, env, o, e1, r, h1, fun v H' F' s' r' q' => ?_⟩
  cases o with
  | val w =>
    cases h
    exact k σ H' F' s' r' (fun _ _ => rfl) v q'
  | ref j =>
    simp only at h
    split at h
    · cases h
    · obtain ⟨w, h2, h⟩ := Option.map_eq_some_iff.mp h
      cases h
      exact k σ H' F' s' r'.drop (fun _ _ => rfl) v (r'.move (gt_some.mp h2) q')
def sRetN : SV := fun env => some (.rt (.v .non), env)
theorem psD_retN : PS X (.Return none pos) (tsOf X.K P sRetN) := ps_retN.imp fun D σ H ⟨F, R, env, fl, env', r, h, k⟩ => by
  cases h
  exact k σ H F (Same.refl F) r (fun _ _ => rfl) .non (Tm.frozen .non)

/-! ### a store into a list or dict that a slot owns -/
def putAt (w : W) (i v : D) : Option W := match w, i with
  | .l ds, .int i => (ixN ds.length i).map fun j => .l (ds.set j v)
  | .k ks, k => if ks.length < sizeLine then k.key.map fun _ => .k (putD ks k v) else none
  | _, _ => none
/-- o[i] = e: e, then o, then i -/
def sPut (fe fo fi : EV) : SV := fun env => (fe env).bind fun p => (fo p.2).bind fun q => (fi q.2).bind fun t => match q.1 with
  | .ref j => (t.1.rd t.2).bind fun i => (p.1.frz t.2).bind fun u => (gt u.2 j).bind fun w => (putAt w i u.1).map fun w' => (.nx, u.2.set j (some w'))
  | _ => none
theorem set_bothD (hu : X.A.units + 65 < cLine) : PSet X (fun o i v H Q => (∃ p xs j k, o = .ref p ∧ i = .int j ∧ H p = some (.lst xs) ∧ ixN xs.length j = some k ∧ Q (upd H p (.lst (xs.set k v)))) ∨
    ∃ a H4, o = .ref a ∧ DPut H a i v H4 ∧ Q H4) := by
  intro pins s σ H o i v ov iv u Q I ro ri rv h
  rcases h with ⟨p, xs, j, k, rfl, rfl, hp, hk, q⟩ | ⟨a, H4, rfl, g, q⟩
  · exact set_list pins s σ H _ _ v ov iv u Q I ro ri rv ⟨p, xs, j, k, rfl, rfl, hp, hk, q⟩
  · cases ro
    exact d_setItem (by omega) I g ri rv fun s' I' => ⟨H4, I', q⟩
theorem psD_put {o i : Expr} {fe fo fi : EV} {p2 : Pos} (hu : X.A.units + 65 < cLine) (he : PE X e (tOf X.K fe)) (ho : PE X o (tOf X.K fo)) (hi : PE X i (tOf X.K fi))
    (ha : ∀ v, assign (.Subscript o i p2) X.env v = (do
      let ov ← holding [v] (eval o X.env)
      let iv ← holding [v, ov] (eval i X.env)
      standAt p2
      holding [v, ov, iv] (setItem ov iv v)
      release [v, ov, iv] [])) (hs : swapsWithSole [.Subscript o i p2] e pos.line X.env = pure false) (hw : swappedStores [.Subscript o i p2] e X.env = pure none)
    (h1 : (assignEach [.Subscript o i p2] X.env).map (·.2) = [assign (.Subscript o i p2) X.env]) : PS X (.Assign [.Subscript o i p2] e pos) (tsOf X.K P (sPut fe fo fi)) :=
  (ps_asg he (pg_sub ho hi (set_bothD hu) ha) hs hw h1).imp fun D σ H ⟨F, R, env, fl, env', r, h, k⟩ => by
    unfold sPut at h
    obtain ⟨⟨oe, e1⟩, h1, h⟩ := Option.bind_eq_some_iff.mp h
    obtain ⟨⟨oo, e2⟩, h2, h⟩ := Option.bind_eq_some_iff.mp h
    obtain ⟨⟨oi, e3⟩, h3, h⟩ := Option.bind_eq_some_iff.mp h
    cases oo with
    | val w => cases h
    | ref j =>
      simp only at h
      obtain ⟨di, h4, h⟩ := Option.bind_eq_some_iff.mp h
      obtain ⟨⟨de, e4⟩, h5, h⟩ := Option.bind_eq_some_iff.mp h
      obtain ⟨w, h6, h⟩ := Option.bind_eq_some_iff.mp h
      obtain ⟨w', h7, h⟩ := Option.map_eq_some_iff.mp h
      cases h
      refine ⟨F, R, env, oe, e1, r, h1, fun x H1 F1 s1 r1 q1 => ?_⟩
      refine ⟨F1, frm R H1 (oO oe x), e1, .ref j, e2, frame_in r1 q1, h2, fun y H2 F2 s2 r2 q2 => ?_⟩
      refine ⟨F2, frm R H1 (oO oe x), e2, oi, e3, r2, h3, fun z H3 F3 s3 r3 q3 => ?_⟩
      have vi := view_ok r3 q3 h4
      obtain ⟨r4, q4⟩ := frame_out r3 (s2.trans s3) q1
      obtain ⟨F5, s5, r5, q5, _⟩ := frz_ok r4 q4 h5
      have hj := gt_some.mp h6
      have hσ : σ[j]? = some (some y) := q2
      have rw5 := r5.at hj hσ
      have ri := vi.rep r3.fH
      cases w with
      | v d => cases di <;> cases h7
      | t d => cases di <;> cases h7
      | l ds =>
        obtain ⟨a, vs, rfl, hH, qa⟩ := rw5
        cases di with
        | int i =>
          obtain ⟨n, hn, h7⟩ := Option.map_eq_some_iff.mp h7
          cases h7
          obtain rfl := RepF.int_eq vi
          refine .inl ⟨a, vs, i, n, rfl, rfl, hH, by rw [qa.length]; exact hn, ?_⟩
          exact k σ _ F5 (s1.trans (s2.trans (s3.trans s5))) (r5.chg hj hσ rfl ⟨a, _, rfl, upd_same, qa.set q5 n⟩) fun _ _ => rfl
        | _ => cases h7
      | k ks =>
        obtain ⟨a, kvs, rfl, hH, qa⟩ := rw5
        have h7 : (if ks.length < sizeLine then di.key.map fun _ => W.k (putD ks di de) else none) = some w' := by cases di <;> exact h7
        split at h7
        · rename_i hz
          obtain ⟨key, hk, h7⟩ := Option.map_eq_some_iff.mp h7
          cases h7
          obtain rfl := key_kV ri hk
          refine .inr ⟨a, _, rfl, DPut.k hH (by rw [qa.length]; exact hz), ?_⟩
          obtain rfl := key_kD hk
          exact k σ _ F5 (s1.trans (s2.trans (s3.trans s5))) (r5.chg hj hσ rfl ⟨a, _, rfl, upd_same, qa.put key (key_ok ri hk) q5⟩) fun _ _ => rfl
        · cases h7

/-! ### while -/
def whileF : Nat → BV → SV → SV
  | 0, _, _ => fun _ => none
  | n + 1, b, f => fun env => (b env).bind fun p => if p.1 then (f p.2).bind fun q => match q.1 with
    | .nx => whileF n b f q.2
    | .ct => whileF n b f q.2
    | .bk => some (.nx, q.2)
    | .rt w => some (.rt w, q.2)
    else some (.nx, p.2)
/-- a way to run whiles -/
def WhOk (wh : BV → SV → SV) : Prop := ∀ b f env r, wh b f env = some r → ∃ n, whileF n b f env = some r
theorem WhOk.fuel (n : Nat) : WhOk (whileF n) := fun _ _ _ _ h => ⟨n, h⟩
noncomputable def sWhile (b : BV) (f : SV) : SV := fun env => open Classical in if h : ∃ n, (whileF n b f env).isSome = true then whileF h.choose b f env else none
theorem WhOk.all : WhOk sWhile := fun b f env r h => by
  unfold sWhile at h
  split at h
  · exact ⟨_, h⟩
  · cases h
theorem whileF_imp {b : BV} {f : SV} {D : Ends} {n0 : Nat} (h : tsOf K P (whileF n0 b f) D σ H) : tWhile (tbOf K b) (tsOf K P f) D σ H := by
  obtain ⟨F, R, env, fl, env', r, h, k⟩ := h
  refine ⟨fun m σ1 H1 => ∃ F1 e1, Same F F1 ∧ Rp K F1 R H1 σ1 e1 ∧ (∀ j ∈ P, σ1[j]? = σ[j]?) ∧ whileF m b f e1 = some (fl, env'), ⟨n0, F, env, Same.refl F, r, fun _ _ => rfl, h⟩, ?_⟩
  rintro m σ1 H1 ⟨F1, e1, s1, r1, p1, h1⟩
  cases m with
  | zero => cases h1
  | succ m =>
    unfold whileF at h1
    obtain ⟨⟨c, e2⟩, h2, h1⟩ := Option.bind_eq_some_iff.mp h1
    refine ⟨F1, R, e1, c, e2, r1, h2, fun H2 F2 s2 r2 => ?_⟩
    cases c with
    | false =>
      rw [if_neg Bool.false_ne_true]
      cases h1
      exact k σ1 H2 F2 (s1.trans s2) r2 p1
    | true =>
      rw [if_pos rfl]
      simp only [if_true] at h1
      obtain ⟨⟨fl3, e3⟩, h3, h1⟩ := Option.bind_eq_some_iff.mp h1
      refine ⟨fun σ' H' => ∃ F4 e4, Same F F4 ∧ Rp K F4 R H' σ' e4 ∧ (∀ j ∈ P, σ'[j]? = σ[j]?) ∧ whileF m b f e4 = some (fl, env'), fun σ' H' z => ⟨m, Nat.lt_succ_self m, z⟩, ?_⟩
      refine ⟨F2, R, e2, fl3, e3, r2, h3, fun σ' H' F' s' r' p' => ?_⟩
      have pp : ∀ j ∈ P, σ'[j]? = σ[j]? := fun j hj => (p' j hj).trans (p1 j hj)
      cases fl3 with
      | nx => exact ⟨F', e3, s1.trans (s2.trans s'), r', pp, h1⟩
      | ct => exact ⟨F', e3, s1.trans (s2.trans s'), r', pp, h1⟩
      | bk =>
        cases h1
        exact k σ' H' F' (s1.trans (s2.trans s')) r' pp
      | rt w =>
        cases h1
        exact k σ' H' F' (s1.trans (s2.trans s')) r' pp
theorem psD_while {c : Expr} {body : List Stmt} {b : BV} {f : SV} {wh : BV → SV → SV} (hw : WhOk wh) (hp : PassesOwn (model X.prog X.w) X.A X.env X.xe) (hc : PT X c (tbOf X.K b)) (hb : PSs X body (tsOf X.K P f)) : PS X (.While c body [] pos) (tsOf X.K P (wh b f)) :=
  (ps_while hp hc hb).imp fun D σ H ⟨F, R, env, fl, env', r, h, k⟩ => by
    obtain ⟨n, hn⟩ := hw b f env _ h
    exact whileF_imp ⟨F, R, env, fl, env', r, hn, k⟩
end
end PD

set_option Elab.async false
set_option linter.all false
set_option maxRecDepth 100000
/-! P8: what is walked; targets; for. -/
namespace PD
open PySem PySem.Spec L2
open PyProof.Rows hiding St

section
variable {K : PySem.W.Frag} {F F' R H H' : Hp} {σ : L2.St} {env env' : Env} {v : V} {w : W} {a : Addr} {o : Opd} {d : D} {P : List Nat}
variable {X : Cx} {e : Expr} {es : List Expr} {st : Stmt} {rest : List Stmt} {pos : Pos}
/-- J walks the data ds while B stands -/
structure IterOk (K : PySem.W.Frag) (F B : Hp) (J : It) (ds : List D) : Prop where
  go : ∀ H, Same B H → ∀ i, i < ds.length → J.go i H
  stop : ∀ H, Same B H → J.stop ds.length H
  yld : ∀ H, Same B H → ∀ i d x H', ds[i]? = some d → J.yld i H x H' → (H' = H ∧ RepF K F x d) ∨ ∃ p vs es, x = .ref p ∧ H p = none ∧ H' = upd H p (.tup vs) ∧ RepFs K F vs es ∧ d = .tup es
theorem IterOk.more {B B' : Hp} {J : It} {ds : List D} (k : IterOk K F B J ds) (s : Same B B') (f : Same F F') : IterOk K F' B' J ds :=
  ⟨fun H h => k.go H (s.trans h), fun H h => k.stop H (s.trans h), fun H h i d x H' e y => by
    rcases k.yld H (s.trans h) i d x H' e y with ⟨e1, r⟩ | ⟨p, vs, es, e1, e2, e3, r, e4⟩
    · exact .inl ⟨e1, RepF.mono f r⟩
    · exact .inr ⟨p, vs, es, e1, e2, e3, RepFs.mono f r, e4⟩⟩
abbrev IV := Env → Option (List D × Env)
def tiOf (K : PySem.W.Frag) (f : IV) : TI := fun σ H Q => ∃ F R env ds env', Rp K F R H σ env ∧ f env = some (ds, env') ∧ ∀ J H' F', Same F F' → Rp K F' R H' σ env' → IterOk K F' F' J ds → Q J H'
theorem _root_.L2.PI.imp {tg it : Expr} {t t' : TI} (h : PI X tg it t) (k : ∀ σ H Q, t' σ H Q → t σ H Q) : PI X tg it t' := ⟨fun p s σ H Q I q => h.run p s σ H Q I (k σ H Q q)⟩

/-- a list, a tuple or a text -/
def iAny (K : PySem.W.Frag) (t : TE) : TI := fun σ H Q => t σ H fun x H1 => (∃ a, x = .ref a ∧ (∃ xs, SqL K H1 a xs) ∧ Q (Itl K a) H1) ∨ (∃ a, x = .ref a ∧ (∃ xs, SqT K H1 a xs) ∧ Q (Itt K a) H1) ∨ ∃ z, x = .str z ∧ Q (Its z) H1
theorem pi_any {tg : Expr} {t : TE} (h : PE X e t) : PI X tg e (iAny X.K t) := by
  refine ⟨fun pins s σ H Q I hq => ?_⟩
  refine thn (h.run pins s σ H _ I hq) fun v s1 ⟨x, H1, I1, r1, q1⟩ => ?_
  have self : ∀ {t' : TE}, PE X e t' → True := fun _ => trivial
  rcases q1 with ⟨a, rfl, ⟨xs, hq⟩, q⟩ | ⟨a, rfl, ⟨xs, hq⟩, q⟩ | ⟨z, rfl, q⟩
  · cases r1
    obtain ⟨its, rv, p, hz⟩ := I1.list hq
    refine wpAny_pyIter_list p.isList ?_
    refine ⟨s1.heap.objs.size, [s1.heap.objs.size], _, _, H1, rfl, I1.kept (t' := s1.toks) fun b o e => Heap.get?_push_of_some _ e, turn_list a _, ⟨_, Heap.get?_push_size _ rfl, rfl, rfl⟩, fun b hb => ?_, q⟩
    have e : b = s1.heap.objs.size := by simpa using hb
    subst e
    exact I1.fpOk (Nat.le_refl _) (I1.hok.fresh (Nat.le_refl _))
  · cases r1
    obtain ⟨its, rv, p, hz⟩ := I1.tuple hq
    refine wpAny_pyIter_tuple (show s1.heap.IsTuple a its.toArray from p) ?_
    refine ⟨s1.heap.objs.size, [s1.heap.objs.size], _, _, H1, rfl, I1.kept (t' := s1.toks) fun b o e => Heap.get?_push_of_some _ e, turn_tuple a _, ⟨_, Heap.get?_push_size _ rfl, rfl, rfl⟩, fun b hb => ?_, q⟩
    have e : b = s1.heap.objs.size := by simpa using hb
    subst e
    exact I1.fpOk (Nat.le_refl _) (I1.hok.fresh (Nat.le_refl _))
  · obtain ⟨t, rfl⟩ := r1
    cases ha : z.cps.all (· < 128)
    · exact wpAny_pyIter_wide ha (pi_one (tk := s1.toks) I1 _ (turn_str _ z t "str_iterator" (.inr rfl)) ⟨_, Heap.get?_push_size _ rfl, rfl, rfl⟩ q)
    · exact wpAny_pyIter_ascii ha (pi_one (tk := s1.toks) I1 _ (turn_str _ z t "str_ascii_iterator" (.inl rfl)) ⟨_, Heap.get?_push_size _ rfl, rfl, rfl⟩ q)

def D.items : D → Option (List D)
  | .lst ds => some ds
  | .tup ds => some ds
  | .str z => some (z.map fun c => .str [c])
  | _ => none
theorem iter_lst {vs : List V} {ds : List D} {B : Hp} (h : SqL K B a vs) (q : RepFs K F vs ds) : IterOk K F B (Itl K a) ds where
  go := fun H s i hi => by
    rw [← q.length] at hi
    exact ⟨vs, vs[i], Same.seq s h, by simp [hi]⟩
  stop := fun H s => ⟨vs, Same.seq s h, by rw [q.length]; exact Nat.le_refl _⟩
  yld := fun H s i d x H' e y => by
    obtain ⟨e1, y⟩ := y
    obtain ⟨v, h1, h2⟩ := q.get e
    have := y vs (Same.seq s h)
    rw [h1] at this
    cases this
    exact .inl ⟨e1, h2⟩
theorem iter_tup {vs : List V} {ds : List D} {B : Hp} (h : SqT K B a vs) (q : RepFs K F vs ds) : IterOk K F B (Itt K a) ds where
  go := fun H s i hi => by
    rw [← q.length] at hi
    exact ⟨vs, vs[i], Same.sqT s h, by simp [hi]⟩
  stop := fun H s => ⟨vs, Same.sqT s h, by rw [q.length]; exact Nat.le_refl _⟩
  yld := fun H s i d x H' e y => by
    obtain ⟨e1, y⟩ := y
    obtain ⟨v, h1, h2⟩ := q.get e
    have := y vs (Same.sqT s h)
    rw [h1] at this
    cases this
    exact .inl ⟨e1, h2⟩
theorem okS_one {z : List Nat} (hz : okS z) {c : Nat} (h : c ∈ z) : okS [c] := ⟨by show 1 ≤ sizeLine; decide, fun c' h' => by rw [List.mem_singleton.mp h']; exact hz.2 c h⟩
theorem iter_str {z : List Nat} {B : Hp} (hz : okS z) : IterOk K F B (Its ⟨z.toArray⟩) (z.map fun c => .str [c]) where
  go := fun H s i hi => by
    show i < z.toArray.size
    simpa using hi
  stop := fun H s => by
    show z.toArray.size ≤ _
    simp
  yld := fun H s i d x H' e y => by
    obtain ⟨e1, c, hc, rfl⟩ := y
    rw [List.getElem?_map] at e
    have hc : z[i]? = some c := by simpa using hc
    rw [hc] at e
    cases e
    exact .inl ⟨e1, .str [c] (okS_one hz (List.mem_of_getElem? hc))⟩
/-- an operand frozen and walked -/
def iSeq (f : EV) : IV := fun env => (f env).bind fun p => (p.1.frz p.2).bind fun q => q.1.items.map fun ds => (ds, q.2)
theorem pi_seqD {tg : Expr} {f : EV} (h : PE X e (tOf X.K f)) : PI X tg e (tiOf X.K (iSeq f)) := (pi_any h).imp fun σ H Q ⟨F, R, env, ds, env', r, h, k⟩ => by
  unfold iSeq at h
  obtain ⟨⟨o, e1⟩, h1, h⟩ := Option.bind_eq_some_iff.mp h
  obtain ⟨⟨d, e2⟩, h2, h⟩ := Option.bind_eq_some_iff.mp h
  obtain ⟨ds', h3, h⟩ := Option.map_eq_some_iff.mp h
  cases h
  refine ⟨F, R, env, o, e1, r, h1, fun x H1 F1 s1 r1 q1 => ?_⟩
  obtain ⟨F2, s2, r2, q2, _⟩ := frz_ok r1 q1 h2
  have fin := fun J => k J H1 F2 (s1.trans s2) r2
  cases d <;> first
    | (cases h3; done)
    | skip
  · cases h3
    cases q2 with
    | str z hz => exact .inr (.inr ⟨_, rfl, fin _ (iter_str hz)⟩)
  · cases h3
    cases q2 with
    | lst hF qs => exact .inl ⟨_, rfl, ⟨_, SqL.of (r2.fH _ _ hF)⟩, fin _ (iter_lst (SqL.of hF) qs)⟩
  · cases h3
    cases q2 with
    | tup hF qs => exact .inr (.inl ⟨_, rfl, ⟨_, Same.sqT r2.fH hF⟩, fin _ (iter_tup hF qs)⟩)

/-! ### range -/
def rngD (lo : Int) (n : Nat) : List D := (List.range n).map fun (i : Nat) => D.int (lo + (i : Int))
theorem iter_rng {lo : Int} {n : Nat} {B : Hp} : IterOk K F B (Itr lo n) (rngD lo n) where
  go := fun H s i hi => by
    show i < n
    simpa [rngD] using hi
  stop := fun H s => by show n ≤ (rngD lo n).length; simp [rngD]
  yld := fun H s i d x H' e y => by
    obtain ⟨e1, rfl⟩ := y
    unfold rngD at e
    rw [List.getElem?_map] at e
    obtain ⟨j, hj, rfl⟩ := Option.map_eq_some_iff.mp e
    have : j = i := by
      obtain ⟨h1, h2⟩ := List.getElem?_eq_some_iff.mp hj
      simpa using h2.symm
    subst this
    exact .inl ⟨e1, .int _⟩
def iRange1 (g : AV) : IV := fun env => (g env).bind fun p => match p.1 with
  | [o] => (o.rd p.2).bind fun d => match d with
    | .int n => if n < 2 ^ 62 ∧ -(2 ^ 62) ≤ n then some (rngD 0 n.toNat, p.2) else none
    | _ => none
  | _ => none
theorem pi_range1D {tg x : Expr} {g : AV} {p : Pos} (hg : Gl X "range") (hm : X.mg "range" = none) (ha : PA X [x] (taOf X.K g)) (hs : starEach [x] X.env = [(false, eval x X.env)]) : PI X tg (.Call (.Name "range" p) [x] [] pos) (tiOf X.K (iRange1 g)) :=
  (pi_range1 hg hm ha hs).imp fun σ H Q ⟨F, R, env, ds, env', r, h, k⟩ => by
    unfold iRange1 at h
    obtain ⟨⟨os, e1⟩, h1, h⟩ := Option.bind_eq_some_iff.mp h
    refine ⟨F, R, env, os, e1, r, h1, fun vs H1 F1 s1 r1 q1 => ?_⟩
    simp only at h
    split at h
    · obtain ⟨d, h2, h⟩ := Option.bind_eq_some_iff.mp h
      cases q1 with
      | cons qa _ t =>
        cases t
        split at h
        · split at h
          · rename_i n hn
            cases h
            obtain rfl := RepF.int_eq (view_ok r1 qa h2)
            exact ⟨n, rfl, hn.2, hn.1, k _ H1 F1 s1 r1 iter_rng⟩
          · cases h
        · cases h
    · cases h
def iRange2 (g : AV) : IV := fun env => (g env).bind fun p => match p.1 with
  | [o, o'] => (o.rd p.2).bind fun d => (o'.rd p.2).bind fun d' => match d, d' with
    | .int m, .int n => if n < 2 ^ 62 ∧ -(2 ^ 62) ≤ n ∧ m < 2 ^ 62 ∧ -(2 ^ 62) ≤ m then some (rngD m (n - m).toNat, p.2) else none
    | _, _ => none
  | _ => none
theorem pi_range2D {tg x y : Expr} {g : AV} {p : Pos} (hg : Gl X "range") (hm : X.mg "range" = none) (ha : PA X [x, y] (taOf X.K g)) (hs : starEach [x, y] X.env = [(false, eval x X.env), (false, eval y X.env)]) (hs2 : starEach [y] X.env = [(false, eval y X.env)]) :
    PI X tg (.Call (.Name "range" p) [x, y] [] pos) (tiOf X.K (iRange2 g)) :=
  (pi_range2 hg hm ha hs hs2).imp fun σ H Q ⟨F, R, env, ds, env', r, h, k⟩ => by
    unfold iRange2 at h
    obtain ⟨⟨os, e1⟩, h1, h⟩ := Option.bind_eq_some_iff.mp h
    refine ⟨F, R, env, os, e1, r, h1, fun vs H1 F1 s1 r1 q1 => ?_⟩
    simp only at h
    split at h
    · obtain ⟨d, h2, h⟩ := Option.bind_eq_some_iff.mp h
      obtain ⟨d', h3, h⟩ := Option.bind_eq_some_iff.mp h
      cases q1 with
      | cons qa _ t =>
        cases t with
        | cons qb _ t =>
          cases t
          split at h
          · split at h
            · rename_i hn
              cases h
              obtain rfl := RepF.int_eq (view_ok r1 qa h2)
              obtain rfl := RepF.int_eq (view_ok r1 qb h3)
              exact ⟨_, _, rfl, ⟨hn.2.2.2, hn.2.2.1, hn.2.1, hn.1⟩, k _ H1 F1 s1 r1 iter_rng⟩
            · cases h
          · cases h
    · cases h

/-! ### targets -/
abbrev GV := D → Env → Option Env
/-- A: the slots that are stored -/
def tgOf (K : PySem.W.Frag) (A : List Nat) (g : GV) : TG := fun v σ H Q => ∃ F R env d env', Rp K F R H σ env ∧ RepF K F v d ∧ g d env = some env' ∧
  ∀ σ', Rp K F R H σ' env' → (∀ j, j ∉ A → σ'[j]? = σ[j]?) → σ'.length = σ.length → Q σ' H
def tgsOf (K : PySem.W.Frag) (A : List Nat) (g : List D → Env → Option Env) : TGs := fun vs σ H Q => ∃ F R env ds env', Rp K F R H σ env ∧ RepFs K F vs ds ∧ g ds env = some env' ∧
  ∀ σ', Rp K F R H σ' env' → (∀ j, j ∉ A → σ'[j]? = σ[j]?) → σ'.length = σ.length → Q σ' H
theorem _root_.L2.PG.imp {x : Expr} {t t' : TG} (h : PG X x t) (k : ∀ v σ H Q, t' v σ H Q → t v σ H Q) : PG X x t' := ⟨fun p s σ H v u Q I r q => h.run p s σ H v u Q I r (k v σ H Q q)⟩
theorem _root_.L2.PGs.imp {x : List Expr} {t t' : TGs} (h : PGs X x t) (k : ∀ v σ H Q, t' v σ H Q → t v σ H Q) : PGs X x t' := ⟨fun p s σ H v u Q I r q => h.run p s σ H v u Q I r (k v σ H Q q)⟩
def gtName (i : Nat) : GV := fun d env => some (env.set i (some (.v d)))
theorem pg_nameD {i : Nat} {x : Str} (h : PG X (.Name x pos) (gName i)) : PG X (.Name x pos) (tgOf X.K [i] (gtName i)) := h.imp fun v σ H Q ⟨F, R, env, d, env', r, q, e, k⟩ => by
  cases e
  exact k _ (r.put (Tm.frozen q)) (fun j hj => set_other fun z => hj (by simp [z])) (by simp)
def gtNil : List D → Env → Option Env
  | [], env => some env
  | _, _ => none
def gtCons (g : GV) (h : List D → Env → Option Env) : List D → Env → Option Env
  | d :: ds, env => (g d env).bind (h ds)
  | [], _ => none
def gtTup (n : Nat) (h : List D → Env → Option Env) : GV := fun d env => match d with
  | .tup ds => if ds.length = n then h ds env else none
  | _ => none
theorem pgs_nilD : PGs X [] (tgsOf X.K [] gtNil) := pgs_nil.imp fun vs σ H Q ⟨F, R, env, ds, env', r, q, e, k⟩ => by
  cases q with
  | nil => cases e; exact ⟨rfl, k σ r (fun _ _ => rfl) rfl⟩
  | cons _ _ => cases e
theorem pgs_consD {A B : List Nat} {g : GV} {h : List D → Env → Option Env} (h1 : PG X e (tgOf X.K A g)) (h2 : PGs X es (tgsOf X.K B h))
    (hs : (assignEach (e :: es) X.env).map (·.2) = assign e X.env :: (assignEach es X.env).map (·.2)) : PGs X (e :: es) (tgsOf X.K (A ++ B) (gtCons g h)) := (pgs_cons h1 h2 hs).imp fun vs σ H Q ⟨F, R, env, ds, env', r, q, e, k⟩ => by
  cases q with
  | nil => cases e
  | cons qa t =>
    obtain ⟨e1, h3, h4⟩ := Option.bind_eq_some_iff.mp (show (g _ env).bind (h _) = some env' from e)
    refine ⟨_, _, rfl, F, R, env, _, e1, r, qa, h3, fun σ1 r1 p1 l1 => ⟨F, R, e1, _, env', r1, t, h4, fun σ2 r2 p2 l2 => k σ2 r2 (fun j hj => ?_) (l2.trans l1)⟩⟩
    rw [List.mem_append, not_or] at hj
    exact (p2 j hj.2).trans (p1 j hj.1)
theorem pg_tupD {A : List Nat} {h : List D → Env → Option Env} {k0 n : Nat} (hc : X.calm = true) (hh : PGs X es (tgsOf X.K A h)) (hn : (assignEach es X.env).length = n) (hst : (assignEach es X.env).findIdx? (·.1) = none) :
    PG X (.Tuple es k0 pos) (tgOf X.K A (gtTup n h)) := (pg_tup hc hh hn hst).imp fun v σ H Q ⟨F, R, env, d, env', r, q, e, k⟩ => by
  unfold gtTup at e
  split at e
  · split at e
    · rename_i hl
      cases q with
      | tup hF qs => exact ⟨_, _, rfl, Same.sqT r.fH hF, by rw [qs.length]; exact hl, F, R, env, _, env', r, qs, e, k⟩
    · cases e
  · cases e

/-! ### for -/
def forL (g : GV) (f : SV) : List D → SV
  | [] => fun env => some (.nx, env)
  | d :: ds => fun env => (g d env).bind fun e1 => (f e1).bind fun p => match p.1 with
    | .nx => forL g f ds p.2
    | .ct => forL g f ds p.2
    | .bk => some (.nx, p.2)
    | .rt w => some (.rt w, p.2)
/-- a fresh tuple that a walk hands out -/
theorem yld_ok {B : Hp} {J : It} {ds : List D} {i : Nat} {x : V} (r : Rp K F R H σ env) (k : IterOk K F B J ds) (sB : Same B H) (e : ds[i]? = some d) (y : J.yld i H x H') : ∃ F1, Same F F1 ∧ Same H H' ∧ Rp K F1 R H' σ env ∧ RepF K F1 x d := by
  rcases k.yld H sB i d x H' e y with ⟨rfl, q⟩ | ⟨p, vs, es, rfl, hp, rfl, q, rfl⟩
  · exact ⟨F, Same.refl F, Same.refl _, r, q⟩
  · obtain ⟨s1, r1, q1⟩ := new_tup r q hp
    exact ⟨_, s1, Same.upd hp, r1, q1⟩
theorem for_imp {A : List Nat} {J : It} {g : GV} {f : SV} {ds : List D} {B : Hp} {D : Ends} {fl : Fl} (hP : ∀ j ∈ A, j ∉ P) (r : Rp K F R H σ env) (kJ : IterOk K F B J ds) (sB : ∀ H', Same F H' → Same R H' → Same B H') (h : forL g f ds env = some (fl, env'))
    (k : ∀ σ' H' F', Same F F' → Rp K F' R H' σ' env' → (∀ j ∈ P, σ'[j]? = σ[j]?) → fl.to K F' R D σ' H' env') :
    ∃ W : Nat → Nat → L2.St → Hp → Prop, (∃ m, W 0 m σ H) ∧ ∀ i m σ H, W i m σ H →
      (J.stop i H ∧ D.nx σ H) ∨ (J.go i H ∧ ∃ N : L2.St → Hp → Prop, (∀ σ' H', N σ' H' → ∃ m', m' < m ∧ W (i + 1) m' σ' H') ∧ ∀ x H', J.yld i H x H' → tgOf K A g x σ H' fun σ2 H2 => tsOf K P f { D with nx := N, ct := N, bk := D.nx } σ2 H2) := by
  refine ⟨fun i m σ1 H1 => m = ds.length - i ∧ i ≤ ds.length ∧ ∃ F1 e1, Same F F1 ∧ Rp K F1 R H1 σ1 e1 ∧ (∀ j ∈ P, σ1[j]? = σ[j]?) ∧ forL g f (ds.drop i) e1 = some (fl, env'), ⟨ds.length, by simp, Nat.zero_le _, F, env, Same.refl F, r, fun _ _ => rfl, by simpa using h⟩, ?_⟩
  rintro i m σ1 H1 ⟨rfl, hi, F1, e1, s1, r1, p1, h1⟩
  have sH : Same B H1 := sB H1 (s1.trans r1.fH) r1.rH
  by_cases hlt : i < ds.length
  · refine .inr ⟨kJ.go H1 sH i hlt, fun σ' H' => ∃ F1 e1, Same F F1 ∧ Rp K F1 R H' σ' e1 ∧ (∀ j ∈ P, σ'[j]? = σ[j]?) ∧ forL g f (ds.drop (i + 1)) e1 = some (fl, env'), fun σ' H' z => ⟨ds.length - (i + 1), by omega, rfl, hlt, z⟩, fun x H' y => ?_⟩
    have ed : ds[i]? = some ds[i] := by simp [hlt]
    obtain ⟨F2, s2, sH', r2, q2⟩ := yld_ok r1 (kJ.more (Same.refl B) s1) sH ed y
    rw [List.drop_eq_getElem_cons hlt] at h1
    obtain ⟨e2, h2, h1⟩ := Option.bind_eq_some_iff.mp (show (g ds[i] e1).bind _ = some (fl, env') from h1)
    obtain ⟨⟨fl3, e3⟩, h3, h1⟩ := Option.bind_eq_some_iff.mp h1
    refine ⟨F2, R, e1, ds[i], e2, r2, q2, h2, fun σ2 r3 p3 _ => ?_⟩
    refine ⟨F2, R, e2, fl3, e3, r3, h3, fun σ4 H4 F4 s4 r4 p4 => ?_⟩
    have pp : ∀ j ∈ P, σ4[j]? = σ[j]? := fun j hj => (p4 j hj).trans ((p3 j fun z => hP j z hj).trans (p1 j hj))
    cases fl3 with
    | nx => exact ⟨F4, e3, s1.trans (s2.trans s4), r4, pp, h1⟩
    | ct => exact ⟨F4, e3, s1.trans (s2.trans s4), r4, pp, h1⟩
    | bk => cases h1; exact k σ4 H4 F4 (s1.trans (s2.trans s4)) r4 pp
    | rt w => cases h1; exact k σ4 H4 F4 (s1.trans (s2.trans s4)) r4 pp
  · have ei : i = ds.length := by omega
    subst ei
    rw [List.drop_length] at h1
    cases h1
    exact .inl ⟨kJ.stop H1 sH, k σ1 H1 F1 s1 r1 p1⟩
def sFor (it : IV) (g : GV) (f : SV) : SV := fun env => (it env).bind fun p => forL g f p.1 p.2
theorem psD_for {tg iter : Expr} {body : List Stmt} {A : List Nat} {it : IV} {g : GV} {f : SV} (hP : ∀ j ∈ A, j ∉ P) (hp : PassesOwn (model X.prog X.w) X.A X.env X.xe) (hc : X.calm = true) (hi : PI X tg iter (tiOf X.K it)) (hg : PG X tg (tgOf X.K A g)) (hb : PSs X body (tsOf X.K P f))
    (hs : ∀ x, foldedSetIterable iter X.env x = pure x) : PS X (.For tg iter body [] pos) (tsOf X.K P (sFor it g f)) := (ps_for hp hc hi hg hb hs).imp fun D σ H ⟨F, R, env, fl, env', r, h, k⟩ => by
  unfold sFor at h
  obtain ⟨⟨ds, e1⟩, h1, h⟩ := Option.bind_eq_some_iff.mp h
  refine ⟨F, R, env, ds, e1, r, h1, fun J H1 F1 s1 r1 kJ => ?_⟩
  exact for_imp hP r1 kJ (fun _ s _ => s) h fun σ' H' F' s' r' p' => k σ' H' F' (s1.trans s') r' p'
end
end PD

set_option Elab.async false
set_option linter.all false
set_option maxRecDepth 100000
/-! P9: list comprehensions; a walk over a slot's own list. -/
namespace PD
open PySem PySem.Spec L2
open PyProof.Rows hiding St

section
variable {K : PySem.W.Frag} {F F' R H H' : Hp} {σ : L2.St} {env env' : Env} {v : V} {w : W} {a : Addr} {o : Opd} {d : D} {P : List Nat}
variable {X : Cx} {e : Expr} {es : List Expr} {st : Stmt} {rest : List Stmt} {pos : Pos}
def wipeE (env : Env) : List Nat → Env
  | [] => env
  | v :: vs => (wipeE env vs).set v none
def restE (e1 : Env) (e2 : Env) : List Nat → Env
  | [] => e2
  | v :: vs => (restE e1 e2 vs).set v (gt e1 v)
theorem wipeE_length (env : Env) : ∀ vs : List Nat, (wipeE env vs).length = env.length
  | [] => rfl
  | v :: vs => by unfold wipeE; rw [List.length_set, wipeE_length env vs]
theorem restE_length (e1 e2 : Env) : ∀ vs : List Nat, (restE e1 e2 vs).length = e2.length
  | [] => rfl
  | v :: vs => by unfold restE; rw [List.length_set, restE_length e1 e2 vs]
theorem restE_get (e1 e2 : Env) {j : Nat} (hj : j < e2.length) : ∀ vs : List Nat, (restE e1 e2 vs)[j]? = if j ∈ vs then some (gt e1 j) else e2[j]?
  | [] => by simp [restE]
  | v :: vs => by
    unfold restE
    by_cases h : v = j
    · subst h
      rw [List.getElem?_set_self (by rw [restE_length]; exact hj)]
      simp
    · rw [List.getElem?_set_ne h, restE_get e1 e2 hj vs]
      have : (j ∈ v :: vs) ↔ j ∈ vs := by simp [Ne.symm h]
      by_cases h2 : j ∈ vs
      · rw [if_pos h2, if_pos (this.mpr h2)]
      · rw [if_neg h2, if_neg fun z => h2 (this.mp z)]
theorem wipe_get (σ : L2.St) {j : Nat} : ∀ {vs : List Nat}, j ∉ vs → (wipe σ vs)[j]? = σ[j]?
  | [], _ => rfl
  | v :: vs, h => by
    simp only [List.mem_cons, not_or] at h
    unfold wipe
    rw [List.getElem?_set_ne (Ne.symm h.1), wipe_get σ h.2]
theorem Rp.wipe1 {i : Nat} (r : Rp K F R H σ env) : Rp K F R H (σ.set i none) (env.set i none) := by
  have sub : ∀ j b, Ow (σ.set i none) (env.set i none) j b → Ow σ env j b := fun j b ⟨w, v, h1, h2, h3⟩ => by
    by_cases e : i = j
    · subst e
      by_cases hi : i < env.length
      · rw [List.getElem?_set_self hi] at h1; cases h1
      · rw [List.getElem?_eq_none (by simpa using hi)] at h1; cases h1
    · rw [List.getElem?_set_ne e] at h1 h2
      exact ⟨w, v, h1, h2, h3⟩
  refine ⟨r.fH, r.rH, r.fr, by rw [List.length_set, List.length_set]; exact r.len, fun j w' h => ?_, fun j k a h1 h2 => r.inj j k a (sub j a h1) (sub k a h2), fun j a h => r.nF j a (sub j a h)⟩
  by_cases e : i = j
  · subst e
    by_cases hi : i < env.length
    · rw [List.getElem?_set_self hi] at h; cases h
    · rw [List.getElem?_eq_none (by simpa using hi)] at h; cases h
  · rw [List.getElem?_set_ne e] at h ⊢
    exact r.slot j w' h
theorem Rp.wipe (r : Rp K F R H σ env) : ∀ vs : List Nat, Rp K F R H (L2.wipe σ vs) (wipeE env vs)
  | [] => r
  | v :: vs => (Rp.wipe r vs).wipe1
/-- the slots of a block's own names may be put back -/
def quiet (env : Env) (vs : List Nat) : Bool := vs.all fun v => match gt env v with
  | none => true
  | some (.v _) => true
  | some (.t _) => true
  | _ => false
theorem quiet_none {w : W} (h : (match some w with | none => true | some (.v _) => true | some (.t _) => true | _ => false) = true) {v : V} : oA w v = none := by
  cases w with
  | v d => rfl
  | t d => rfl
  | l _ => cases h
  | k _ => cases h
theorem Rp.back {e1 e2 : Env} {vs : List Nat} {F1 H1 : Hp} (r1 : Rp K F1 R H1 σ e1) (s : Same F1 F) (r2 : Rp K F R H (L2.wipe σ vs) e2) (q : quiet e1 vs = true) (hl : e2.length = e1.length) : Rp K F R H σ (restE e1 e2 vs) := by
  have hq : ∀ j ∈ vs, ∀ w, gt e1 j = some w → ∀ v, oA w v = none := fun j hj w e v => by
    have := List.all_eq_true.mp q j hj
    rw [e] at this
    exact quiet_none this
  have sub : ∀ j b, Ow σ (restE e1 e2 vs) j b → Ow (L2.wipe σ vs) e2 j b := fun j b ⟨w, v, h1, h2, h3⟩ => by
    have hj : j < e2.length := by
      have := (List.getElem?_eq_some_iff.mp h1).1
      rwa [restE_length] at this
    rw [restE_get e1 e2 hj] at h1
    split at h1
    · rename_i hm
      rw [hq j hm w (Option.some.inj h1) v] at h3
      cases h3
    · rename_i hm
      exact ⟨w, v, h1, by rw [wipe_get σ hm]; exact h2, h3⟩
  refine ⟨r2.fH, r2.rH, r2.fr, by rw [restE_length, hl]; exact r1.len, fun j w h1 => ?_, fun j k a h1 h2 => r2.inj j k a (sub j a h1) (sub k a h2), fun j a h => r2.nF j a (sub j a h)⟩
  have hj : j < e2.length := by
    have := (List.getElem?_eq_some_iff.mp h1).1
    rwa [restE_length] at this
  rw [restE_get e1 e2 hj] at h1
  split at h1
  · rename_i hm
    have h1 := Option.some.inj h1
    obtain ⟨v, h2, h3⟩ := r1.slot j _ (gt_some.mp h1)
    exact ⟨v, h2, h3.mono s fun a o z _ => by rw [hq j hm w h1 v] at z; cases z⟩
  · rename_i hm
    obtain ⟨v, h2, h3⟩ := r2.slot j w h1
    rw [wipe_get σ hm] at h2
    exact ⟨v, h2, h3⟩
theorem wipe_eq {σ2 : L2.St} {vs : List Nat} (h : ∀ j, j ∉ vs → σ2[j]? = σ[j]?) (hl : σ2.length = σ.length) : L2.wipe σ2 vs = L2.wipe σ vs := by
  have none_in : ∀ (σ : L2.St) {j : Nat} {vs : List Nat}, j ∈ vs → j < σ.length → (L2.wipe σ vs)[j]? = some none := fun σ {j vs} => by
    induction vs with
    | nil => intro h; cases h
    | cons u us ih =>
      intro hm hlt
      show ((L2.wipe σ us).set u none)[j]? = _
      by_cases e : u = j
      · subst e
        rw [List.getElem?_set_self (by rw [wipe_length]; exact hlt)]
      · rw [List.getElem?_set_ne e]
        exact ih ((List.mem_cons.mp hm).resolve_left fun z => e z.symm) hlt
  apply List.ext_getElem?
  intro j
  by_cases hm : j ∈ vs
  · by_cases hlt : j < σ.length
    · rw [none_in σ hm hlt, none_in σ2 hm (by omega)]
    · rw [List.getElem?_eq_none (by rw [wipe_length]; omega), List.getElem?_eq_none (by rw [wipe_length]; omega)]
  · rw [wipe_get σ hm, wipe_get σ2 hm, h j hm]
/-! the frame's own object -/
theorem Rp.newR {p : Addr} {u : HO} (r : Rp K F R H σ env) (hp : H p = none) : Rp K F (upd R p u) (upd H p u) σ env := by
  have no : ∀ i, ¬ Ow σ env i p := fun i h => by obtain ⟨u, hu, _⟩ := r.ow h; rw [hp] at hu; cases hu
  have g := r.grow (Same.upd (u := u) hp)
  refine ⟨g.fH, fun b o h => ?_, fun b => ?_, r.len, g.slot, r.inj, fun i b h => ⟨(r.nF i b h).1, ?_⟩⟩
  · by_cases z : b = p
    · subst z; rw [upd_same] at h ⊢; exact h
    · rw [upd_ne z] at h ⊢; exact r.rH b o h
  · by_cases z : b = p
    · subst z; exact .inl (r.fH.free hp)
    · rw [upd_ne z]; exact r.fr b
  · have nb : b ≠ p := by rintro rfl; exact no i h
    rw [upd_ne nb]; exact (r.nF i b h).2
theorem Rp.chgR {p : Addr} {u u' : HO} (r : Rp K F (upd R p u') H σ env) (hR : R p = none) : Rp K F (upd R p u) (upd H p u) σ env := by
  have hF : F p = none := (r.fr p).resolve_right fun z => by rw [upd_same] at z; cases z
  have no : ∀ i, ¬ Ow σ env i p := fun i h => by have := (r.nF i p h).2; rw [upd_same] at this; cases this
  refine ⟨fun b o h => ?_, fun b o h => ?_, fun b => ?_, r.len, fun i w h => ?_, r.inj, fun i b h => ⟨(r.nF i b h).1, ?_⟩⟩
  · rw [upd_ne (by rintro rfl; rw [hF] at h; cases h)]; exact r.fH b o h
  · by_cases z : b = p
    · subst z; rw [upd_same] at h ⊢; exact h
    · rw [upd_ne z] at h ⊢; exact r.rH b o (by rw [upd_ne z]; exact h)
  · by_cases z : b = p
    · subst z; exact .inl hF
    · rw [upd_ne z]; have := r.fr b; rwa [upd_ne z] at this
  · obtain ⟨v, h1, h2⟩ := r.slot i w h
    refine ⟨v, h1, h2.mono (Same.refl F) fun b o z q => ?_⟩
    rw [upd_ne (by rintro rfl; exact no i ⟨w, v, h, h1, z⟩)]; exact q
  · have nb : b ≠ p := by rintro rfl; exact no i h
    rw [upd_ne nb]; have := (r.nF i b h).2; rwa [upd_ne nb] at this
theorem Rp.outR {p : Addr} {vs : List V} {ds : List D} (r : Rp K F (upd R p (.lst vs)) H σ env) (hR : R p = none) (q : RepFs K F vs ds) : Rp K F R H σ env ∧ Tm K F R H σ env (.ref p) (.l ds) := by
  have hF : F p = none := (r.fr p).resolve_right fun z => by rw [upd_same] at z; cases z
  have no : ∀ i, ¬ Ow σ env i p := fun i h => by have := (r.nF i p h).2; rw [upd_same] at this; cases this
  have sR : Same R (upd R p (.lst vs)) := Same.upd hR
  refine ⟨⟨r.fH, sR.trans r.rH, fun b => (r.fr b).imp id sR.free, r.len, r.slot, r.inj, fun i b h => ⟨(r.nF i b h).1, sR.free (r.nF i b h).2⟩⟩, ⟨p, vs, rfl, r.rH _ _ upd_same, q⟩, fun a e => ?_⟩
  cases e
  exact ⟨hF, hR, no⟩

def lcL (g : GV) (c : BV) (fe : EV) (vs : List Nat) : List D → List D → Env → Option (List D × Env)
  | [], acc, env => some (acc, env)
  | d :: ds, acc, env => (g d env).bind fun e1 => (c e1).bind fun p => if p.1 then (fe p.2).bind fun q => (q.1.frz q.2).bind fun t => if acc.length < sizeLine then lcL g c fe vs ds (acc ++ [t.1]) (wipeE t.2 vs) else none
    else lcL g c fe vs ds acc (wipeE p.2 vs)
def cLc (it : IV) (g : GV) (c : BV) (fe : EV) (vs : List Nat) : EV := fun env => (it env).bind fun p => if quiet p.2 vs then (lcL g c fe vs p.1 [] (wipeE p.2 vs)).bind fun q => if q.2.length = p.2.length then some (.val (.l q.1), restE p.2 q.2 vs) else none else none
theorem lc_imp {A vs : List Nat} {J : It} {g : GV} {c : BV} {fe : EV} {ds dres : List D} {B : Hp} {p : Addr} {Qd : Hp → Prop} (hA : ∀ j ∈ A, j ∈ vs) (hp : H p = none) (r : Rp K F R H σ env) (kJ : IterOk K F B J ds) (sB : ∀ H', Same F H' → Same R H' → Same B H') (h : lcL g c fe vs ds [] (wipeE env vs) = some (dres, env'))
    (k : ∀ H' F' acc, Same F F' → Rp K F' (upd R p (.lst acc)) H' (L2.wipe σ vs) env' → RepFs K F' acc dres → Qd H') :
    ∃ W : Nat → Nat → Hp → Prop, (∃ m, W 0 m (upd H p (.lst []))) ∧ ∀ i m H, W i m H →
      (J.stop i H ∧ Qd H) ∨ (J.go i H ∧ ∃ Nx : Hp → Prop, (∀ H', Nx H' → ∃ m', m' < m ∧ W (i + 1) m' H') ∧ ∀ x H', J.yld i H x H' → tgOf K A g x (L2.wipe σ vs) H' fun σ2 H2 => L2.wipe σ2 vs = L2.wipe σ vs ∧ tbOf K c σ2 H2 fun b H3 =>
        if b = true then tOf K fe σ2 H3 fun y H4 => ∃ acc, H4 p = some (.lst acc) ∧ acc.length < sizeLine ∧ Nx (upd H4 p (.lst (acc ++ [y]))) else Nx H3) := by
  have hR : R p = none := r.rH.free hp
  let Pv : Nat → Hp → Prop := fun i H1 => ∃ F1 e1 acc dacc, Same F F1 ∧ Rp K F1 (upd R p (.lst acc)) H1 (L2.wipe σ vs) e1 ∧ RepFs K F1 acc dacc ∧ lcL g c fe vs (ds.drop i) dacc e1 = some (dres, env')
  refine ⟨fun i m H1 => m = ds.length - i ∧ i ≤ ds.length ∧ Pv i H1, ⟨ds.length, by simp, Nat.zero_le _, F, wipeE env vs, [], [], Same.refl F, (r.wipe vs).newR hp, .nil, by simpa using h⟩, ?_⟩
  rintro i m H1 ⟨rfl, hi, F1, e1, acc, dacc, s1, r1, q1, h1⟩
  have sR : Same R (upd R p (.lst acc)) := Same.upd hR
  have sH : Same B H1 := sB H1 (s1.trans r1.fH) (sR.trans r1.rH)
  by_cases hlt : i < ds.length
  · refine .inr ⟨kJ.go H1 sH i hlt, Pv (i + 1), fun H' z => ⟨ds.length - (i + 1), by omega, rfl, hlt, z⟩, fun x H' y => ?_⟩
    have ed : ds[i]? = some ds[i] := by simp [hlt]
    obtain ⟨F2, s2, sH', r2, q2⟩ := yld_ok r1 (kJ.more (Same.refl B) s1) sH ed y
    rw [List.drop_eq_getElem_cons hlt] at h1
    obtain ⟨e2, h2, h1⟩ := Option.bind_eq_some_iff.mp (show (g ds[i] e1).bind _ = some (dres, env') from h1)
    obtain ⟨⟨b, e3⟩, h3, h1⟩ := Option.bind_eq_some_iff.mp h1
    refine ⟨F2, _, e1, ds[i], e2, r2, q2, h2, fun σ2 r3 p3 l3 => ⟨?_, F2, _, e2, b, e3, r3, h3, fun H3 F3 s3 r4 => ?_⟩⟩
    · have hw : ∀ j, j ∉ vs → σ2[j]? = (L2.wipe σ vs)[j]? := fun j hj => p3 j fun z => hj (hA j z)
      have l : σ2.length = σ.length := by rw [l3, wipe_length]
      exact wipe_eq (fun j hj => by rw [hw j hj, wipe_get σ hj]) l
    · have wq : L2.wipe σ2 vs = L2.wipe σ vs := wipe_eq (fun j hj => by rw [p3 j fun z => hj (hA j z), wipe_get σ hj]) (by rw [l3, wipe_length])
      cases b with
      | false =>
        refine (if_neg Bool.false_ne_true).mpr ?_
        have h1 : lcL g c fe vs (ds.drop (i + 1)) dacc (wipeE e3 vs) = some (dres, env') := h1
        exact ⟨F3, wipeE e3 vs, acc, dacc, s1.trans (s2.trans s3), wq ▸ r4.wipe vs, RepFs.mono (s2.trans s3) q1, h1⟩
      | true =>
        refine (if_pos rfl).mpr ?_
        simp only [if_true] at h1
        obtain ⟨⟨oy, e4⟩, h5, h1⟩ := Option.bind_eq_some_iff.mp h1
        obtain ⟨⟨dy, e5⟩, h6, h1⟩ := Option.bind_eq_some_iff.mp h1
        simp only at h1
        split at h1
        · rename_i hz
          refine ⟨F3, _, e3, oy, e4, r4, h5, fun y H5 F5 s5 r5 q5 => ⟨acc, r5.rH _ _ upd_same, by rw [q1.length]; exact hz, ?_⟩⟩
          obtain ⟨F6, s6, r6, q6, _⟩ := frz_ok r5 q5 h6
          have s06 := s2.trans (s3.trans (s5.trans s6))
          exact ⟨F6, wipeE e5 vs, acc ++ [y], dacc ++ [dy], s1.trans s06, wq ▸ (r6.chgR hR).wipe vs, (RepFs.mono s06 q1).append (.cons q6 .nil), h1⟩
        · cases h1
  · have ei : i = ds.length := by omega
    subst ei
    rw [List.drop_length] at h1
    cases h1
    exact .inl ⟨kJ.stop H1 sH, k H1 F1 acc s1 r1 q1⟩
theorem cLc_imp {A vs : List Nat} {it : IV} {g : GV} {c : BV} {fe : EV} {Q : VK} (hA : ∀ j ∈ A, j ∈ vs) (h : tOf K (cLc it g c fe vs) σ H Q) : tLc (tiOf K it) (tgOf K A g) (tbOf K c) (tOf K fe) vs σ H Q := by
  obtain ⟨F, R, env, o, env', r, h, k⟩ := h
  unfold cLc at h
  obtain ⟨⟨ds, e1⟩, h1, h⟩ := Option.bind_eq_some_iff.mp h
  simp only at h
  split at h
  · rename_i hq
    obtain ⟨⟨dres, e2⟩, h2, h⟩ := Option.bind_eq_some_iff.mp h
    simp only at h
    split at h
    · rename_i hl
      cases h
      refine ⟨F, R, env, ds, e1, r, h1, fun J H1 F1 s1 r1 kJ p hp => ?_⟩
      refine lc_imp hA hp r1 kJ (fun _ s _ => s) h2 fun H' F' acc s' r' q' => ?_
      obtain ⟨r2, t2⟩ := r'.outR (r1.rH.free hp) q'
      have r3 := r1.back s' r2 hq hl
      refine k _ H' F' (s1.trans s') r3 ⟨t2.rep, fun b eb => ?_⟩
      obtain ⟨n1, n2, n3⟩ := t2.own b eb
      refine ⟨n1, n2, fun j hj => ?_⟩
      cases eb
      obtain ⟨w, v, z1, z2, z3⟩ := hj
      have hjl : j < e2.length := by
        have := (List.getElem?_eq_some_iff.mp z1).1
        rwa [restE_length] at this
      rw [restE_get e1 e2 hjl] at z1
      split at z1
      · rename_i hm
        have := List.all_eq_true.mp hq j hm
        rw [Option.some.inj z1] at this
        rw [quiet_none this] at z3
        cases z3
      · rename_i hm
        exact n3 j ⟨w, v, z1, by rw [wipe_get σ hm]; exact z2, z3⟩
    · cases h
  · cases h
/-! ### tests of a clause -/
def bYes : BV := fun env => some (true, env)
theorem _root_.L2.PTs.imp {ifs : List Expr} {t t' : TT} (h : PTs X ifs t) (k : ∀ σ H Q, t' σ H Q → t σ H Q) : PTs X ifs t' := ⟨fun p s σ H Q I q => h.run p s σ H Q I (k σ H Q q)⟩
theorem pts_nilD : PTs X [] (tbOf X.K bYes) := pts_nil.imp fun σ H Q ⟨F, R, env, b, env', r, h, k⟩ => by
  cases h
  exact k H F (Same.refl F) r
theorem pts_oneD {c : Expr} {b : BV} (h : PT X c (tbOf X.K b)) : PTs X [c] (tbOf X.K b) := pts_one h
theorem pe_lcD {elt tg iter : Expr} {ifs : List Expr} {scope : Scope} {own : List (Str × Nat)} {A : List Nat} {it : IV} {g : GV} {c : BV} {fe : EV} (hc : X.calm = true) (hN : X.N.Nodup) (hi : PI X tg iter (tiOf X.K it)) (ok : BlkOk X.N X.env.scope scope own)
    (hA : ∀ j ∈ A, j ∈ own.map (·.2))
    (hg : ∀ (s : Shared) (H : Hp) (C : Addr) (cl : List (Str × Addr)) (fp : List Addr), PG (X.blk s H scope (compEnvC scope cl C X.env) fp) tg (tgOf X.K A g)) (ht : ∀ (s : Shared) (H : Hp) (C : Addr) (cl : List (Str × Addr)) (fp : List Addr), PTs (X.blk s H scope (compEnvC scope cl C X.env) fp) ifs (tbOf X.K c))
    (he : ∀ (s : Shared) (H : Hp) (C : Addr) (cl : List (Str × Addr)) (fp : List Addr), PE (X.blk s H scope (compEnvC scope cl C X.env) fp) elt (tOf X.K fe)) (hs : ∀ x, foldedSetIterable iter X.env x = pure x) :
    PE X (.ListComp elt [⟨tg, iter, ifs, 0⟩] scope pos) (tOf X.K (cLc it g c fe (own.map (·.2)))) := (pe_lc hc hN hi ok hg ht he hs).imp fun _ _ _ h => cLc_imp hA h
theorem psD_setLc {i : Nat} {y : Str} {py : Pos} {elt tg iter : Expr} {ifs : List Expr} {scope : Scope} {own : List (Str × Nat)} {spos : Pos} {A : List Nat} {it : IV} {g : GV} {c : BV} {fe : EV} (hP : i ∉ P) (hc : X.calm = true) (hN : X.N.Nodup) (hy : X.N[i]? = some y) (hyl : X.env.scope.names.lookup y = some .local)
    (hsw : swapsWith (.ListComp elt [⟨tg, iter, ifs, 0⟩] scope pos) (some (.Name y py)) spos.line X.env = pure true) (hi : PI X tg iter (tiOf X.K it)) (ok : BlkOk X.N X.env.scope scope own)
    (hA : ∀ j ∈ A, j ∈ own.map (·.2))
    (hg : ∀ (s : Shared) (H : Hp) (C : Addr) (cl : List (Str × Addr)) (fp : List Addr), PG (X.blk s H scope (compEnvC scope cl C X.env) fp) tg (tgOf X.K A g)) (ht : ∀ (s : Shared) (H : Hp) (C : Addr) (cl : List (Str × Addr)) (fp : List Addr), PTs (X.blk s H scope (compEnvC scope cl C X.env) fp) ifs (tbOf X.K c))
    (he : ∀ (s : Shared) (H : Hp) (C : Addr) (cl : List (Str × Addr)) (fp : List Addr), PE (X.blk s H scope (compEnvC scope cl C X.env) fp) elt (tOf X.K fe)) (hs : ∀ x, foldedSetIterable iter X.env x = pure x) :
    PS X (.Assign [.Name y py] (.ListComp elt [⟨tg, iter, ifs, 0⟩] scope pos) spos) (tsOf X.K P (sSet i (cLc it g c fe (own.map (·.2))))) :=
  psD_set hP ((ps_setLc hc hN hy hyl hsw hi ok hg ht he hs).imp fun _ _ _ h => cLc_imp hA h)
end
end PD

set_option Elab.async false
set_option linter.all false
set_option maxRecDepth 100000
/-! P10: calls of the program's own defs. -/
namespace PD
open PySem PySem.Spec L2
open PyProof.Rows hiding St

section
variable {K : PySem.W.Frag} {F F' R H H' : Hp} {σ : L2.St} {env env' : Env} {v : V} {w : W} {a : Addr} {o : Opd} {d : D} {P : List Nat}
variable {X : Cx} {e : Expr} {es : List Expr} {pos : Pos}
/-- what a def does: the arguments; the result, the arguments behind -/
abbrev FnV := List W → Option (W × List W)
def spOf (K : PySem.W.Frag) (n : Nat) (f : FnV) : Sp := fun vs H Q _ => ∃ F R ws w ws', ws.length = n ∧ Rp K F R H (vs.map some) (ws.map some) ∧ f ws = some (w, ws') ∧
  ∀ v H' F', Same F F' → Rp K F' R H' (vs.map some) (ws'.map some) → Tm K F' R H' (vs.map some) (ws'.map some) v w → Q v H'
theorem spOf.len {n : Nat} {f : FnV} {vs : List V} {Q : VK} {E : XK} (h : spOf K n f vs H Q E) : vs.length = n := by
  obtain ⟨F, R, ws, w, ws', hl, r, _⟩ := h
  have := r.len
  simp only [List.length_map] at this
  omega
/-- the frame of a callee: what the slots that are not handed over own -/
noncomputable def frX (H R : Hp) (σ : L2.St) (env : Env) (J : Nat → Prop) : Hp := fun b => open Classical in if ∃ i, ¬ J i ∧ Ow σ env i b then H b else R b
theorem frX_own {J : Nat → Prop} {i : Nat} (h : ¬ J i) (hb : Ow σ env i a) : frX H R σ env J a = H a := by
  unfold frX
  rw [if_pos ⟨i, h, hb⟩]
theorem frX_not {J : Nat → Prop} (h : ¬ ∃ i, ¬ J i ∧ Ow σ env i a) : frX H R σ env J a = R a := by
  unfold frX
  rw [if_neg h]
theorem frX_sub {J : Nat → Prop} (r : Rp K F R H σ env) : Same R (frX H R σ env J) := fun b o h => by
  rw [frX_not fun ⟨i, _, hb⟩ => by rw [(r.nF i b hb).2] at h; cases h]
  exact h
def W.isV : W → Bool
  | .v _ => true
  | .t _ => true
  | _ => false
theorem isV_oA (h : w.isV = true) : oA w v = none := by
  cases w with
  | v d => rfl
  | t d => rfl
  | l _ => cases h
  | k _ => cases h
/-- values that nothing owns, whatever the heap -/
inductive RepVs (K : PySem.W.Frag) (F : Hp) : List V → List W → Prop
  | nil : RepVs K F [] []
  | cons {v : V} {w : W} {vs : List V} {ws : List W} : w.isV = true → (∀ H, RepW K F H v w) → RepVs K F vs ws → RepVs K F (v :: vs) (w :: ws)
theorem RepVs.length : ∀ {vs : List V} {ws : List W}, RepVs K F vs ws → vs.length = ws.length
  | _, _, .nil => rfl
  | _, _, .cons _ _ t => congrArg (· + 1) (RepVs.length t)
theorem RepVs.get : ∀ {vs : List V} {ws : List W} {i : Nat} {w : W}, RepVs K F vs ws → ws[i]? = some w → ∃ v, vs[i]? = some v ∧ RepW K F H v w
  | _, _, _, _, .nil, e => by simp at e
  | _, _, 0, _, .cons _ r _, e => by simp at e; subst e; exact ⟨_, rfl, r H⟩
  | _, _, i + 1, d, .cons _ _ t, e => by
    obtain ⟨u, h1, h2⟩ := RepVs.get (i := i) (w := d) t (by simpa using e)
    exact ⟨u, by simpa using h1, h2⟩
theorem RepVs.isV : ∀ {vs : List V} {ws : List W}, RepVs K F vs ws → ws.all W.isV = true
  | _, _, .nil => rfl
  | _, _, .cons h _ t => by rw [List.all_cons, h, RepVs.isV t]; rfl
theorem RepVs.mono (s : Same F F') : ∀ {vs : List V} {ws : List W}, RepVs K F vs ws → RepVs K F' vs ws
  | _, _, .nil => .nil
  | _, _, .cons h r t => .cons h (fun H => (r H).mono s fun a o z _ => by rw [isV_oA h] at z; cases z) (RepVs.mono s t)
theorem isV_slot {vs : List V} {ws : List W} {i : Nat} {b : Addr} (h : ws.all W.isV = true) (q : Ow (vs.map some) (ws.map some) i b) : False := by
  obtain ⟨w, v, h1, h2, h3⟩ := q
  rw [List.getElem?_map] at h1
  obtain ⟨w', hw, e⟩ := Option.map_eq_some_iff.mp h1
  cases e
  rw [isV_oA (List.all_eq_true.mp h w (List.mem_of_getElem? hw))] at h3
  cases h3
theorem Rp.args {vs : List V} {ws : List W} (sH : Same F H) (rH : Same R H) (fr : ∀ a, F a = none ∨ R a = none) (q : RepVs K F vs ws) : Rp K F R H (vs.map some) (ws.map some) := by
  refine ⟨sH, rH, fr, by simp [q.length], fun i w h => ?_, fun i j a h => (isV_slot q.isV h).elim, fun i a h => (isV_slot q.isV h).elim⟩
  rw [List.getElem?_map] at h
  obtain ⟨w', hw, e⟩ := Option.map_eq_some_iff.mp h
  cases e
  obtain ⟨v, h1, h2⟩ := q.get (H := H) hw
  exact ⟨v, by rw [List.getElem?_map, h1]; rfl, h2⟩
def Opd.arg : Opd → Env → Option (W × Env)
  | .val w, env => match w with
    | .t ds => some (.t ds, env)
    | w => some (.v w.d, env)
  | .ref i, env => (gt env i).map fun w => (.v w.d, env.set i (some (.v w.d)))
def argsW : List Opd → Env → Option (List W × Env)
  | [], env => some ([], env)
  | o :: os, env => (o.arg env).bind fun p => (argsW os p.2).map fun q => (p.1 :: q.1, q.2)
theorem arg_ok (r : Rp K F R H σ env) (q : RepO K F R H σ env v o) (e : o.arg env = some (w, env')) : ∃ F', Same F F' ∧ Rp K F' R H σ env' ∧ w.isV = true ∧ (∀ H, RepW K F' H v w) ∧
    ∀ vs os, (∀ a, oO o v = some a → a ∉ ownL vs os) → RepOs K F R H σ env vs os → RepOs K F' R H σ env' vs os := by
  have fz : ∀ {o : Opd} {d : D} {e' : Env}, RepO K F R H σ env v o → o.frz env = some (d, e') → ∃ F', Same F F' ∧ Rp K F' R H σ e' ∧ (W.v d).isV = true ∧ (∀ H, RepW K F' H v (.v d)) ∧
    ∀ vs os, (∀ a, oO o v = some a → a ∉ ownL vs os) → RepOs K F R H σ env vs os → RepOs K F' R H σ e' vs os := fun {o d e'} q h => by
      obtain ⟨F', s', r', q', k'⟩ := frz_ok r q h
      exact ⟨F', s', r', rfl, fun _ => q', k'⟩
  cases o with
  | ref i =>
    have e : (gt env i).map (fun w => (W.v w.d, env.set i (some (.v w.d)))) = some (w, env') := e
    obtain ⟨w1, h1, e⟩ := Option.map_eq_some_iff.mp e
    cases e
    exact fz q (by show (gt env i).map _ = _; rw [h1]; rfl)
  | val w1 =>
    cases w1 with
    | t ds =>
      cases e
      have q : Tm K F R H σ env v (.t ds) := q
      exact ⟨F, Same.refl F, r, rfl, fun _ => q.rep, fun _ _ _ z => z⟩
    | v d => cases e; exact fz q rfl
    | l d => cases e; exact fz q rfl
    | k d => cases e; exact fz q rfl
theorem argsW_ok : ∀ {vs : List V} {os : List Opd} {F : Hp} {env env' : Env} {ws : List W}, Rp K F R H σ env → RepOs K F R H σ env vs os → argsW os env = some (ws, env') → ∃ F', Same F F' ∧ Rp K F' R H σ env' ∧ RepVs K F' vs ws
  | _, _, F, env, env', ds, r, .nil, e => by cases e; exact ⟨F, Same.refl F, r, .nil⟩
  | v :: vs, o :: os, F, env, env', ds, r, .cons q n t, e => by
    unfold argsW at e
    obtain ⟨⟨w, e1⟩, h, e⟩ := Option.bind_eq_some_iff.mp e
    obtain ⟨⟨ws', e2⟩, h2, e⟩ := Option.map_eq_some_iff.mp e
    cases e
    obtain ⟨F1, s1, r1, v1, q1, k1⟩ := arg_ok r q h
    obtain ⟨F2, s2, r2, q2⟩ := argsW_ok r1 (k1 vs os n t) h2
    exact ⟨F2, s1.trans s2, r2, .cons v1 (fun H => (q1 H).mono s2 fun a o z _ => by rw [isV_oA v1] at z; cases z) q2⟩
/-- a call that hands over nothing that is owned -/
theorem call_frozen {vs : List V} {ws : List W} (r : Rp K F R H σ env) (q : RepVs K F vs ws) : Rp K F (frX H R σ env fun _ => False) H (vs.map some) (ws.map some) := by
  refine Rp.args r.fH (fun b o h => ?_) (fun b => ?_) q
  · by_cases hb : ∃ i, ¬ False ∧ Ow σ env i b
    · obtain ⟨i, hi, hb⟩ := hb
      rw [frX_own (J := fun _ => False) hi hb] at h
      exact h
    · rw [frX_not hb] at h
      exact r.rH b o h
  · by_cases hb : ∃ i, ¬ False ∧ Ow σ env i b
    · obtain ⟨i, hi, hb⟩ := hb
      exact .inl (r.nF i b hb).1
    · rw [frX_not (J := fun _ => False) hb]
      exact r.fr b
theorem call_frozen_back {J : Nat → Prop} {σ2 : L2.St} {env2 : Env} (hJ : ∀ i, ¬ J i) (r : Rp K F R H σ env) (s : Same F F') (r2 : Rp K F' (frX H R σ env J) H' σ2 env2) (t : Tm K F' (frX H R σ env J) H' σ2 env2 v w) : Rp K F' R H' σ env ∧ Tm K F' R H' σ env v w := by
  have sub := frX_sub (J := J) r
  have own : ∀ i b, Ow σ env i b → ∃ u, H b = some u ∧ frX H R σ env J b = some u := fun i b h => by
    obtain ⟨u, hu, _⟩ := r.ow h
    exact ⟨u, hu, by rw [frX_own (hJ i) h]; exact hu⟩
  refine ⟨⟨r2.fH, sub.trans r2.rH, fun b => (r2.fr b).imp id sub.free, r.len, fun i w h => ?_, r.inj, fun i b h => ⟨?_, (r.nF i b h).2⟩⟩, ⟨t.rep, fun a e => ?_⟩⟩
  · obtain ⟨v, h1, h2⟩ := r.slot i w h
    refine ⟨v, h1, h2.mono s fun b o z q => ?_⟩
    obtain ⟨u, hu, fu⟩ := own i b ⟨w, v, h, h1, z⟩
    rw [hu] at q
    cases q
    exact r2.rH b _ fu
  · obtain ⟨u, _, fu⟩ := own i b h
    exact (r2.fr b).resolve_right fun z => by rw [fu] at z; cases z
  · obtain ⟨n1, n2, n3⟩ := t.own a e
    refine ⟨n1, sub.free n2, fun i h => ?_⟩
    obtain ⟨u, _, fu⟩ := own i a h
    rw [fu] at n2; cases n2
/-- a call that hands over slot j -/
theorem call_own {vs : List V} {ws : List W} {j : Nat} (r : Rp K F R H σ env) (h1 : env[j]? = some (some w)) (h2 : σ[j]? = some (some v)) (q : RepVs K F vs ws) :
    Rp K F (frX H R σ env fun i => i = j) H ((v :: vs).map some) ((w :: ws).map some) := by
  have own0 : ∀ b, oA w v = some b → Ow σ env j b := fun b e => ⟨w, v, h1, h2, e⟩
  have cases0 : ∀ {i b}, Ow ((v :: vs).map some) ((w :: ws).map some) i b → i = 0 ∧ oA w v = some b := fun {i b} h => by
    cases i with
    | zero =>
      obtain ⟨w', v', e1, e2, e3⟩ := h
      cases e1
      cases e2
      exact ⟨rfl, e3⟩
    | succ i =>
      obtain ⟨w', v', e1, e2, e3⟩ := h
      exact (isV_slot (vs := vs) (ws := ws) (i := i) (b := b) q.isV ⟨w', v', by simpa using e1, by simpa using e2, e3⟩).elim
  refine ⟨r.fH, fun b o h => ?_, fun b => ?_, by simp [q.length], fun i w' h => ?_, fun i k b h3 h4 => ?_, fun i b h => ?_⟩
  · by_cases hb : ∃ i, ¬ i = j ∧ Ow σ env i b
    · obtain ⟨i, hi, hb⟩ := hb
      rw [frX_own (J := fun i => i = j) hi hb] at h
      exact h
    · rw [frX_not (J := fun i => i = j) hb] at h
      exact r.rH b o h
  · by_cases hb : ∃ i, ¬ i = j ∧ Ow σ env i b
    · obtain ⟨i, hi, hb⟩ := hb
      exact .inl (r.nF i b hb).1
    · rw [frX_not (J := fun i => i = j) hb]
      exact r.fr b
  · cases i with
    | zero => cases h; exact ⟨v, rfl, r.at h1 h2⟩
    | succ i =>
      obtain ⟨v', h5, h6⟩ := (Rp.args r.fH r.rH r.fr q).slot i w' (by simpa using h)
      exact ⟨v', by simpa using h5, h6⟩
  · rw [(cases0 h3).1, (cases0 h4).1]
  · have := own0 b (cases0 h).2
    refine ⟨(r.nF j b this).1, ?_⟩
    rw [frX_not (J := fun i => i = j) fun ⟨i, hi, hb⟩ => hi (r.inj i j b hb this)]
    exact (r.nF j b this).2
theorem call_own_back {vs : List V} {ws : List W} {j : Nat} {w0 w1 : W} {x : V} (r : Rp K F R H σ env) (h1 : env[j]? = some (some w0)) (h2 : σ[j]? = some (some x)) (s : Same F F')
    (r2 : Rp K F' (frX H R σ env fun i => i = j) H' ((x :: vs).map some) ((w1 :: ws).map some)) (t : Tm K F' (frX H R σ env fun i => i = j) H' ((x :: vs).map some) ((w1 :: ws).map some) v w) :
    Rp K F' R H' σ (env.set j (some w1)) ∧ Tm K F' R H' σ (env.set j (some w1)) v w := by
  have sub := frX_sub (J := fun i => i = j) r
  have hj : j < env.length := (List.getElem?_eq_some_iff.mp h1).1
  have own : ∀ i b, i ≠ j → Ow σ env i b → ∃ u, H b = some u ∧ frX H R σ env (fun i => i = j) b = some u := fun i b n h => by
    obtain ⟨u, hu, _⟩ := r.ow h
    exact ⟨u, hu, by rw [frX_own (J := fun i => i = j) n h]; exact hu⟩
  have at0 : RepW K F' H' x w1 := r2.at (i := 0) rfl rfl
  have ow0 : ∀ b, oA w1 x = some b → Ow ((x :: vs).map some) ((w1 :: ws).map some) 0 b := fun b e => ⟨w1, x, rfl, rfl, e⟩
  have cs : ∀ i b, Ow σ (env.set j (some w1)) i b → (i = j ∧ oA w1 x = some b) ∨ (i ≠ j ∧ Ow σ env i b) := fun i b ⟨w', v', e1, e2, e3⟩ => by
    by_cases z : j = i
    · subst z
      rw [List.getElem?_set_self hj] at e1
      cases e1
      rw [h2] at e2
      cases e2
      exact .inl ⟨rfl, e3⟩
    · rw [List.getElem?_set_ne z] at e1
      exact .inr ⟨fun q => z q.symm, w', v', e1, e2, e3⟩
  refine ⟨⟨r2.fH, sub.trans r2.rH, fun b => (r2.fr b).imp id sub.free, by rw [List.length_set]; exact r.len, fun i w h => ?_, fun i k b h3 h4 => ?_, fun i b h => ?_⟩, ⟨t.rep, fun a e => ?_⟩⟩
  · by_cases z : j = i
    · subst z
      rw [List.getElem?_set_self hj] at h
      cases h
      exact ⟨x, h2, at0⟩
    · rw [List.getElem?_set_ne z] at h
      obtain ⟨v, h3, h4⟩ := r.slot i w h
      refine ⟨v, h3, h4.mono s fun b o q1 q2 => ?_⟩
      obtain ⟨u, hu, fu⟩ := own i b (fun q => z q.symm) ⟨w, v, h, h3, q1⟩
      rw [hu] at q2
      cases q2
      exact r2.rH b _ fu
  · rcases cs i b h3 with ⟨rfl, e1⟩ | ⟨n1, e1⟩
    · rcases cs k b h4 with ⟨rfl, e2⟩ | ⟨n2, e2⟩
      · rfl
      · obtain ⟨u, _, fu⟩ := own k b n2 e2
        have := (r2.nF 0 b (ow0 b e1)).2
        rw [fu] at this; cases this
    · rcases cs k b h4 with ⟨rfl, e2⟩ | ⟨n2, e2⟩
      · obtain ⟨u, _, fu⟩ := own i b n1 e1
        have := (r2.nF 0 b (ow0 b e2)).2
        rw [fu] at this; cases this
      · exact r.inj i k b e1 e2
  · rcases cs i b h with ⟨rfl, e1⟩ | ⟨n1, e1⟩
    · exact ⟨(r2.nF 0 b (ow0 b e1)).1, sub.free (r2.nF 0 b (ow0 b e1)).2⟩
    · obtain ⟨u, _, fu⟩ := own i b n1 e1
      exact ⟨(r2.fr b).resolve_right (fun z => (by rw [fu] at z; cases z)), (r.nF i b e1).2⟩
  · obtain ⟨n1, n2, n3⟩ := t.own a e
    refine ⟨n1, sub.free n2, fun i h => ?_⟩
    rcases cs i a h with ⟨rfl, e1⟩ | ⟨m1, e1⟩
    · exact n3 0 (ow0 a e1)
    · obtain ⟨u, _, fu⟩ := own i a m1 e1
      rw [fu] at n2; cases n2

/-- a call: m tells that the first argument is handed over to be changed -/
def cCall (m : Bool) (f : FnV) (g : AV) : EV := fun env => (g env).bind fun p => match m with
  | false => (argsW p.1 p.2).bind fun q => (f q.1).map fun t => (.val t.1, q.2)
  | true => match p.1 with
    | .ref j :: os => (argsW os p.2).bind fun q => (gt q.2 j).bind fun w0 => (f (w0 :: q.1)).bind fun t => match t.2 with
      | w1 :: _ => some (.val t.1, q.2.set j (some w1))
      | [] => none
    | _ => none
/-- f gives back as many arguments as it was given -/
def FnV.same (f : FnV) : Prop := ∀ ws w ws', f ws = some (w, ws') → ws'.length = ws.length
theorem cCall_imp {m : Bool} {f : FnV} {g : AV} {n : Nat} {Q : VK} {E : XK} (hn : ∀ ws r, f ws = some r → ws.length = n) (h : tOf K (cCall m f g) σ H Q) : tCall (spOf K n f) [] E (taOf K g) σ H Q := by
  obtain ⟨F, R, env, o, env', r, h, k⟩ := h
  unfold cCall at h
  obtain ⟨⟨os, e1⟩, h1, h⟩ := Option.bind_eq_some_iff.mp h
  refine ⟨F, R, env, os, e1, r, h1, fun vs H1 F1 s1 r1 q1 => ?_⟩
  show spOf K n f (vs ++ []) H1 Q E
  rw [List.append_nil]
  cases m with
  | false =>
    obtain ⟨⟨ds, e2⟩, h2, h⟩ := Option.bind_eq_some_iff.mp h
    obtain ⟨⟨w, ws'⟩, h3, h⟩ := Option.map_eq_some_iff.mp h
    cases h
    obtain ⟨F2, s2, r2, q2⟩ := argsW_ok r1 q1 h2
    refine ⟨F2, _, ds, w, ws', hn _ _ h3, call_frozen r2 q2, h3, fun v H' F' s' r' t' => ?_⟩
    obtain ⟨r3, t3⟩ := call_frozen_back (fun _ z => z) r2 s' r' t'
    exact k v H' F' (s1.trans (s2.trans s')) r3 t3
  | true =>
    simp only at h
    split at h
    · rename_i j os'
      obtain ⟨⟨ds, e2⟩, h2, h⟩ := Option.bind_eq_some_iff.mp h
      obtain ⟨w0, h3, h⟩ := Option.bind_eq_some_iff.mp h
      obtain ⟨⟨w, ws'⟩, h4, h⟩ := Option.bind_eq_some_iff.mp h
      simp only at h
      split at h
      · rename_i w1 ws1
        cases h
        cases q1 with
        | cons qa n1 t =>
          obtain ⟨F2, s2, r2, q2⟩ := argsW_ok r1 t h2
          refine ⟨F2, _, w0 :: ds, w, w1 :: ws1, hn _ _ h4, call_own r2 (gt_some.mp h3) qa q2, h4, fun v H' F' s' r' t' => ?_⟩
          obtain ⟨r3, t3⟩ := call_own_back r2 (gt_some.mp h3) qa s' r' t'
          exact k v H' F' (s1.trans (s2.trans s')) r3 t3
      · cases h
    · cases h

/-! ### a def's body -/
def runB (N n : Nat) (m : Bool) (S : SV) : FnV := fun ws => if ws.length = n then match m with
  | false => if ws.all W.isV then (S (ws.map some ++ List.replicate (N - n) none)).bind fun p => match p.1 with
    | .rt w => some (w, ws)
    | .nx => some (.v .non, ws)
    | _ => none
    else none
  | true => match ws with
    | [] => none
    | w0 :: rest => if rest.all W.isV then (S (ws.map some ++ List.replicate (N - n) none)).bind fun p => (gt p.2 0).bind fun w1 => match p.1 with
      | .rt w => some (w, w1 :: rest)
      | .nx => some (.v .non, w1 :: rest)
      | _ => none
      else none
  else none
theorem runB_len {N n : Nat} {m : Bool} {S : SV} : ∀ ws r, runB N n m S ws = some r → ws.length = n := fun ws r h => by
  unfold runB at h
  split at h
  · assumption
  · cases h
theorem Rp.start {vs : List V} {ws : List W} {N : List Str} (r : Rp K F R H (vs.map some) (ws.map some)) : Rp K F R H (L2.start N vs) (ws.map some ++ List.replicate (N.length - ws.length) none) := by
  have hl : vs.length = ws.length := by have := r.len; simpa using this
  have sub : ∀ i b, Ow (L2.start N vs) (ws.map some ++ List.replicate (N.length - ws.length) none) i b → Ow (vs.map some) (ws.map some) i b := fun i b ⟨w, v, h1, h2, h3⟩ => by
    by_cases hi : i < ws.length
    · rw [List.getElem?_append_left (by simpa using hi)] at h1
      unfold L2.start at h2
      rw [List.getElem?_append_left (by rw [List.length_map]; omega)] at h2
      exact ⟨w, v, h1, h2, h3⟩
    · rw [List.getElem?_append_right (by simp; omega), List.getElem?_replicate] at h1
      split at h1 <;> cases h1
  refine ⟨r.fH, r.rH, r.fr, ?_, fun i w h => ?_, fun i j a h1 h2 => r.inj i j a (sub i a h1) (sub j a h2), fun i a h => r.nF i a (sub i a h)⟩
  · unfold L2.start
    simp [hl]
  · by_cases hi : i < ws.length
    · rw [List.getElem?_append_left (by simpa using hi)] at h
      obtain ⟨v, h1, h2⟩ := r.slot i w h
      refine ⟨v, ?_, h2⟩
      unfold L2.start
      rw [List.getElem?_append_left (by rw [List.length_map]; omega)]
      exact h1
    · rw [List.getElem?_append_right (by simp; omega), List.getElem?_replicate] at h
      split at h <;> cases h
theorem body_imp {N : List Str} {n : Nat} {m : Bool} {S : SV} {vs : List V} {Q : VK} {E : XK} (h : spOf K n (runB N.length n m S) vs H Q E) :
    tsOf K (if m then [0] else []) S { nx := fun _ H' => Q .non H', rt := Q } (L2.start N vs) H := by
  obtain ⟨F, R, ws, w, ws', hl, r, h, k⟩ := h
  have hvl : vs.length = ws.length := by have := r.len; simpa using this
  unfold runB at h
  rw [if_pos hl] at h
  cases m with
  | false =>
    simp only at h
    split at h
    · rename_i hv
      obtain ⟨⟨fl, e1⟩, h1, h⟩ := Option.bind_eq_some_iff.mp h
      have fin : ∀ σ' H' F' v w, Same F F' → Rp K F' R H' σ' e1 → Tm K F' R H' σ' e1 v w → Rp K F' R H' (vs.map some) (ws.map some) ∧ Tm K F' R H' (vs.map some) (ws.map some) v w := fun σ' H' F' v w s' r' t' =>
        ⟨⟨r'.fH, r'.rH, r'.fr, r.len, fun i w' hw => (by
          obtain ⟨v', h2, h3⟩ := r.slot i w' hw
          refine ⟨v', h2, h3.mono s' fun a o z _ => ?_⟩
          exact (isV_slot hv ⟨w', v', hw, h2, z⟩).elim), fun i j a z => (isV_slot hv z).elim, fun i a z => (isV_slot hv z).elim⟩, ⟨t'.rep, fun a e => ⟨(t'.own a e).1, (t'.own a e).2.1, fun i z => isV_slot hv z⟩⟩⟩
      refine ⟨F, R, _, fl, e1, r.start (N := N), by rw [hl]; exact h1, fun σ' H' F' s' r' p' => ?_⟩
      cases fl with
      | rt w1 =>
        cases h
        intro v t'
        obtain ⟨r2, t2⟩ := fin σ' H' F' v _ s' r' t'
        exact k v H' F' s' r2 t2
      | nx =>
        cases h
        obtain ⟨r2, t2⟩ := fin σ' H' F' .non (.v .non) s' r' (Tm.frozen .non)
        exact k .non H' F' s' r2 t2
      | bk => cases h
      | ct => cases h
    · cases h
  | true =>
    cases ws with
    | nil => cases h
    | cons w0 rest =>
      simp only at h
      split at h
      · rename_i hv
        obtain ⟨⟨fl, e1⟩, h1, h⟩ := Option.bind_eq_some_iff.mp h
        obtain ⟨w1, h2, h⟩ := Option.bind_eq_some_iff.mp h
        have h2 := gt_some.mp h2
        cases vs with
        | nil => cases hvl
        | cons x vs =>
          have s0 : (L2.start N (x :: vs))[0]? = some (some x) := rfl
          have tail : ∀ i b, Ow ((x :: vs).map some) ((w1 :: rest).map some) i b → i = 0 ∧ oA w1 x = some b := fun i b ⟨w', v', z1, z2, z3⟩ => by
            cases i with
            | zero => cases z1; cases z2; exact ⟨rfl, z3⟩
            | succ i => exact (isV_slot (vs := vs) (ws := rest) (i := i) (b := b) hv ⟨w', v', by simpa using z1, by simpa using z2, z3⟩).elim
          have fin : ∀ σ' H' F' v w, Same F F' → Rp K F' R H' σ' e1 → σ'[0]? = some (some x) → Tm K F' R H' σ' e1 v w → Rp K F' R H' ((x :: vs).map some) ((w1 :: rest).map some) ∧ Tm K F' R H' ((x :: vs).map some) ((w1 :: rest).map some) v w := fun σ' H' F' v w s' r' p' t' => by
            have o0 : ∀ b, oA w1 x = some b → Ow σ' e1 0 b := fun b e => ⟨w1, x, h2, p', e⟩
            refine ⟨⟨r'.fH, r'.rH, r'.fr, by simpa using r.len, fun i w' hw => ?_, fun i j a z1 z2 => by rw [(tail i a z1).1, (tail j a z2).1], fun i a z => r'.nF 0 a (o0 a (tail i a z).2)⟩, ⟨t'.rep, fun a e => ⟨(t'.own a e).1, (t'.own a e).2.1, fun i z => (t'.own a e).2.2 0 (o0 a (tail i a z).2)⟩⟩⟩
            cases i with
            | zero => cases hw; exact ⟨x, rfl, r'.at h2 p'⟩
            | succ i =>
              obtain ⟨v', h3, h4⟩ := r.slot (i + 1) w' (by simpa using hw)
              refine ⟨v', h3, h4.mono s' fun a o z _ => ?_⟩
              exact (isV_slot (vs := vs) (ws := rest) (i := i) (b := a) hv ⟨w', v', by simpa using hw, by simpa using h3, z⟩).elim
          refine ⟨F, R, _, fl, e1, r.start (N := N), by rw [hl]; exact h1, fun σ' H' F' s' r' p' => ?_⟩
          have p0 := (p' 0 (by simp)).trans s0
          cases fl with
          | rt w2 =>
            cases h
            intro v t'
            obtain ⟨r2, t2⟩ := fin σ' H' F' v _ s' r' p0 t'
            exact k v H' F' s' r2 t2
          | nx =>
            cases h
            obtain ⟨r2, t2⟩ := fin σ' H' F' .non (.v .non) s' r' p0 (Tm.frozen .non)
            exact k .non H' F' s' r2 t2
          | bk => cases h
          | ct => cases h
      · cases h
end
end PD

set_option Elab.async false
set_option linter.all false
set_option maxRecDepth 100000
/-! P11: built-in functions and methods by data. -/
namespace PD
open PySem PySem.Spec L2
open PyProof.Rows hiding St

section
variable {K : PySem.W.Frag} {F F' R H H' : Hp} {σ : L2.St} {env env' : Env} {v : V} {w : W} {a : Addr} {o : Opd} {d : D} {P : List Nat}
variable {X : Cx} {e : Expr} {es : List Expr} {pos : Pos}
inductive Views (K : PySem.W.Frag) (F H : Hp) : List V → List D → Prop
  | nil : Views K F H [] []
  | cons {v : V} {d : D} {vs : List V} {ds : List D} : View K F H v d → Views K F H vs ds → Views K F H (v :: vs) (d :: ds)
def rds : List Opd → Env → Option (List D)
  | [], _ => some []
  | o :: os, env => (o.rd env).bind fun d => (rds os env).map fun ds => d :: ds
theorem rds_ok (r : Rp K F R H σ env) : ∀ {vs : List V} {os : List Opd} {ds : List D}, RepOs K F R H σ env vs os → rds os env = some ds → Views K F H vs ds
  | _, _, _, .nil, e => by cases e; exact .nil
  | _, _, _, .cons q _ t, e => by
    unfold rds at e
    obtain ⟨d, h1, e⟩ := Option.bind_eq_some_iff.mp e
    obtain ⟨ds', h2, e⟩ := Option.map_eq_some_iff.mp e
    cases e
    exact .cons (view_ok r q h1) (rds_ok r t h2)
def rCG (K : PySem.W.Frag) (g : List D → Option W) : List V → Hp → VK → Prop := fun vs H Q => ∃ F R σ env ds w, Rp K F R H σ env ∧ Views K F H vs ds ∧ g ds = some w ∧ ∀ v H' F', Same F F' → Rp K F' R H' σ env → Tm K F' R H' σ env v w → Q v H'
def cB (g : List D → Option W) (ga : AV) : EV := fun env => (ga env).bind fun p => (rds p.1 p.2).bind fun ds => (g ds).map fun w => (.val w, p.2)
theorem cB_imp {g : List D → Option W} {ga : AV} {Q : VK} (h : tOf K (cB g ga) σ H Q) : tCB (rCG K g) (taOf K ga) σ H Q := by
  obtain ⟨F, R, env, o, env', r, h, k⟩ := h
  unfold cB at h
  obtain ⟨⟨os, e1⟩, h1, h⟩ := Option.bind_eq_some_iff.mp h
  obtain ⟨ds, h2, h⟩ := Option.bind_eq_some_iff.mp h
  obtain ⟨w, h3, h⟩ := Option.map_eq_some_iff.mp h
  cases h
  exact ⟨F, R, env, os, e1, r, h1, fun vs H' F' s' r' q' => ⟨F', R, σ, e1, ds, w, r', rds_ok r' q' h2, h3, fun v H2 F2 s2 r2 t2 => k v H2 F2 (s'.trans s2) r2 t2⟩⟩
theorem pe_bfun {x : Str} {p : Pos} {id : String} {g : List D → Option W} {ga : AV} (hc : CallR X (.builtin id) (rCG X.K g)) (hg : Gl X x) (hm : X.mg x = none) (hv : bootBuiltins x = some (.builtin id)) (ha : PA X (e :: es) (taOf X.K ga)) (hn : x ≠ "__name__") (hdb : (x == ("__debug__" : Str)) = false)
    (he : starEach (e :: es) X.env = (false, eval e X.env) :: starEach es X.env) (hpl : (backTo pos (starEach es X.env)).any (·.1) = false) : PE X (.Call (.Name x p) (e :: es) [] pos) (tOf X.K (cB g ga)) :=
  (pe_callB hc hg hm hv ha hn hdb he hpl).imp fun _ _ _ h => cB_imp h
theorem pe_bty {x : Str} {p : Pos} {T : String} {g : List D → Option W} {ga : AV} (hc : CallR X (.type T) (rCG X.K g)) (hg : Gl X x) (hm : X.mg x = none) (hv : bootBuiltins x = some (.type T)) (ha : PA X (e :: es) (taOf X.K ga)) (hn : x ≠ "__name__") (hdb : (x == ("__debug__" : Str)) = false)
    (he : starEach (e :: es) X.env = (false, eval e X.env) :: starEach es X.env) (hpl : (backTo pos (starEach es X.env)).any (·.1) = false) : PE X (.Call (.Name x p) (e :: es) [] pos) (tOf X.K (cB g ga)) :=
  (pe_callTy hc hg hm hv ha hn hdb he hpl).imp fun _ _ _ h => cB_imp h

/-! ### len, list, tuple, all, any, max, min, int, bool -/
def gLen : List D → Option W
  | [.str z] => some (.v (.int z.length))
  | [.lst ds] => some (.v (.int ds.length))
  | [.tup ds] => some (.v (.int ds.length))
  | [.dic ks] => some (.v (.int ks.length))
  | _ => none
theorem len_ok : CallR X (.builtin "len") (rCG X.K gLen) := by
  intro pins s σ H xs us Q I rx h
  obtain ⟨F, R, σ', env, ds, w, r, vw, e, k⟩ := h
  unfold gLen at e
  split at e
  · cases vw with
    | cons va t =>
      cases t
      obtain ⟨rfl, hz⟩ := RepF.str_eq va
      exact call_len_str pins s σ H _ us Q I rx ⟨_, rfl, by simpa [Str.length] using hz.1, by simpa [Str.length] using scal_int r e k⟩
  · cases vw with
    | cons va t =>
      cases t
      obtain ⟨a, vs, rfl, ha, qa⟩ := va
      exact call_len_seq pins s σ H _ us Q I rx ⟨a, vs, rfl, .inl (SqL.of ha), by rw [qa.length]; exact scal_int r e k⟩
  · cases vw with
    | cons va t =>
      cases t
      obtain ⟨a, vs, rfl, ha, _, qa⟩ := va
      exact call_len_seq pins s σ H _ us Q I rx ⟨a, vs, rfl, .inr ha, by rw [qa.length]; exact scal_int r e k⟩
  · cases vw with
    | cons va t =>
      cases t
      obtain ⟨a, kvs, rfl, ha, qa⟩ := va
      obtain ⟨u, rfl, ru⟩ := vals1 rx
      cases ru
      exact d_len I (.inl ha) fun t s' I' => ⟨.int kvs.length, H, I', ⟨t, rfl⟩, by rw [qa.length]; exact scal_int r e k⟩
  · cases e
def gList : List D → Option W
  | [.lst ds] => some (.l ds)
  | [.tup ds] => some (.l ds)
  | [.scr ds] => some (.l ds)
  | [.dic ks] => some (.l (ks.map (·.1)))
  | [.str z] => some (.l (z.map fun c => .str [c]))
  | _ => none
theorem RepKs.keys : ∀ {kvs : List (Key × V)} {ds : List (D × D)}, RepKs K F kvs ds → RepFs K F (kvs.map fun kv => kV kv.1) (ds.map (·.1))
  | _, _, .nil => .nil
  | (.inl i, v) :: kvs, _, .cons _ r t => .cons (.int i) (RepKs.keys t)
  | (.inr z, v) :: kvs, _, .cons o r t => .cons (by
      have := RepF.str (K := K) (F := F) z.cps.toList o
      exact this) (RepKs.keys t)
def gTuple : List D → Option W
  | [.lst ds] => some (.v (.tup ds))
  | [.tup ds] => some (.v (.tup ds))
  | _ => none
theorem chars_ok : ∀ (z : List Nat), (∀ c ∈ z, okS [c]) → RepFs K F (z.map fun c => V.str ⟨#[c]⟩) (z.map fun c => D.str [c])
  | [], _ => .nil
  | c :: z, h => .cons (.str [c] (h c List.mem_cons_self)) (chars_ok z fun c' h' => h c' (List.mem_cons_of_mem _ h'))
theorem list_str_ok (hc : X.calm = true) {z : List Nat} (hz : okS z) (pins : List (Addr × Obj)) (s : Shared) (σ : L2.St) (H : Hp) (us : List Value) (Q : VK) (I : Inv X pins σ H s) (rx : Vals [V.str ⟨z.toArray⟩] us)
    (q : ∀ p, H p = none → Q (.ref p) (upd H p (.lst (z.map fun c => V.str ⟨#[c]⟩)))) : wpAny (model X.prog X.w) X.A (call (.type "list") us) (EP X pins σ Q) X.xe s := by
  obtain ⟨u, rfl, t, rfl⟩ := vals1 rx
  refine call_list_str (I.ok.hd hc) _ t (fun h' tk acc' c' hk hl hacc => ?_) (by simpa using hz.1)
  have hv : Vals (z.map fun c => V.str ⟨#[c]⟩) acc'.toList := by
    obtain ⟨hsz, hit⟩ := hacc
    refine vals_of_at (by simpa using hsz.symm) fun j x u h1 h2 => ?_
    obtain ⟨c, tk', hc', rfl⟩ := hit j u (by simpa using h2)
    rw [List.getElem?_map] at h1
    have hc2 : z[j]? = some c := by simpa using hc'
    rw [hc2] at h1
    cases h1
    exact ⟨_, rfl⟩
  have el : (z.map fun c => V.str ⟨#[c]⟩).length ≤ sizeLine := by rw [List.length_map]; exact hz.1
  refine ⟨.ref s.heap.objs.size, _, I.laid hk (Nat.le_refl _) (show ObjOk X.prog X.w _ _ _ (.lst (z.map fun c => V.str ⟨#[c]⟩)) from ⟨el, acc'.toList, c', hv, by rw [Array.toArray_toList]; exact hl⟩), rfl, q _ (I.hok.fresh (Nat.le_refl _))⟩
theorem list_ok (hc : X.calm = true) : CallR X (.type "list") (rCG X.K gList) := by
  intro pins s σ H xs us Q I rx h
  obtain ⟨F, R, σ', env, ds, w, r, vw, e, k⟩ := h
  unfold gList at e
  split at e
  · cases vw with
    | cons va t =>
      cases t
      obtain ⟨a, vs, rfl, ha, qa⟩ := va
      exact call_list_of pins s σ H _ us Q I rx ⟨a, vs, rfl, .inl (SqL.of ha), scal_lst r qa e k⟩
  · cases vw with
    | cons va t =>
      cases t
      obtain ⟨a, vs, rfl, ha, _, qa⟩ := va
      exact call_list_of pins s σ H _ us Q I rx ⟨a, vs, rfl, .inr ha, scal_lst r qa e k⟩
  · cases vw with
    | cons va t =>
      cases t
      obtain ⟨a, vs, rfl, ha, qa⟩ := va
      exact call_list_of pins s σ H _ us Q I rx ⟨a, vs, rfl, .inl ha, scal_lst r qa e k⟩
  · cases vw with
    | cons va t =>
      cases t
      obtain ⟨a, kvs, rfl, ha, qa⟩ := va
      exact call_list_dK hc pins s σ H _ us Q I rx ⟨a, kvs, rfl, ha, scal_lst r qa.keys e k⟩
  · cases vw with
    | cons va t =>
      cases t
      obtain ⟨rfl, hz⟩ := RepF.str_eq va
      exact list_str_ok hc hz pins s σ H us Q I rx (scal_lst r (chars_ok _ fun c h => okS_one hz h) e k)
  · cases e
theorem tuple_ok : CallR X (.type "tuple") (rCG X.K gTuple) := by
  intro pins s σ H xs us Q I rx h
  obtain ⟨F, R, σ', env, ds, w, r, vw, e, k⟩ := h
  unfold gTuple at e
  split at e
  · cases vw with
    | cons va t =>
      cases t
      obtain ⟨a, vs, rfl, ha, qa⟩ := va
      exact call_tuple_of pins s σ H _ us Q I rx ⟨a, vs, rfl, .inl ⟨SqL.of ha, scal_tup r qa e k⟩⟩
  · cases vw with
    | cons va t =>
      cases t
      obtain ⟨a, vs, rfl, ha, fa, qa⟩ := va
      exact call_tuple_of pins s σ H _ us Q I rx ⟨a, vs, rfl, .inr ⟨ha, scal_fz r (.tup fa qa) e k⟩⟩
  · cases e
end
end PD

set_option Elab.async false
set_option linter.all false
set_option maxRecDepth 100000
/-! P12: all, any, max, min, isinstance; methods of texts and lists. -/
namespace PD
open PySem PySem.Spec L2
open PyProof.Rows hiding St

section
variable {K : PySem.W.Frag} {F F' R H H' : Hp} {σ : L2.St} {env env' : Env} {v : V} {w : W} {a : Addr} {o : Opd} {d : D} {P : List Nat}
variable {X : Cx} {e : Expr} {es : List Expr} {pos : Pos}
def D.bl? : D → Option Bool
  | .bl b => some b
  | _ => none
def D.int? : D → Option Int
  | .int b => some b
  | _ => none
def D.str? : D → Option (List Nat)
  | .str b => some b
  | _ => none
def mapO {α β : Type} (f : α → Option β) : List α → Option (List β)
  | [] => some []
  | a :: as => (f a).bind fun b => (mapO f as).map fun bs => b :: bs
theorem bl?_eq {d : D} {b : Bool} (h : d.bl? = some b) : d = .bl b := by cases d <;> first | (cases h; rfl) | cases h
theorem int?_eq {d : D} {b : Int} (h : d.int? = some b) : d = .int b := by cases d <;> first | (cases h; rfl) | cases h
theorem str?_eq {d : D} {b : List Nat} (h : d.str? = some b) : d = .str b := by cases d <;> first | (cases h; rfl) | cases h
theorem bls_ok : ∀ {vs : List V} {ds : List D} {bs : List Bool}, RepFs K F vs ds → mapO D.bl? ds = some bs → vs = bs.map V.bl
  | _, _, _, .nil, e => by cases e; rfl
  | _, _, _, .cons r t, e => by
    unfold mapO at e
    obtain ⟨b, h1, e⟩ := Option.bind_eq_some_iff.mp e
    obtain ⟨bs', h2, e⟩ := Option.map_eq_some_iff.mp e
    cases e
    obtain rfl := bl?_eq h1
    cases r
    rw [bls_ok t h2]
    rfl
theorem nats_ok : ∀ {vs : List V} {ds : List D} {bs : List Int}, RepFs K F vs ds → mapO D.int? ds = some bs → vs = bs.map V.int
  | _, _, _, .nil, e => by cases e; rfl
  | _, _, _, .cons r t, e => by
    unfold mapO at e
    obtain ⟨b, h1, e⟩ := Option.bind_eq_some_iff.mp e
    obtain ⟨bs', h2, e⟩ := Option.map_eq_some_iff.mp e
    cases e
    obtain rfl := int?_eq h1
    cases r
    rw [nats_ok t h2]
    rfl
theorem strs_ok : ∀ {vs : List V} {ds : List D} {bs : List (List Nat)}, RepFs K F vs ds → mapO D.str? ds = some bs → vs = (bs.map fun z => (⟨z.toArray⟩ : Str)).map V.str ∧ ∀ z ∈ bs, okS z
  | _, _, _, .nil, e => by cases e; exact ⟨rfl, fun z h => by cases h⟩
  | _, _, _, .cons r t, e => by
    unfold mapO at e
    obtain ⟨b, h1, e⟩ := Option.bind_eq_some_iff.mp e
    obtain ⟨bs', h2, e⟩ := Option.map_eq_some_iff.mp e
    cases e
    obtain rfl := str?_eq h1
    cases r with
    | str z hz =>
      obtain ⟨e1, e2⟩ := strs_ok t h2
      refine ⟨by rw [e1]; rfl, fun z' hz' => ?_⟩
      rcases List.mem_cons.mp hz' with rfl | hz'
      · exact hz
      · exact e2 z' hz'
def gAll : List D → Option W
  | [.lst ds] => (mapO D.bl? ds).map fun bs => .v (.bl (bs.all id))
  | _ => none
def gAny : List D → Option W
  | [.lst ds] => (mapO D.bl? ds).map fun bs => .v (.bl (bs.any id))
  | _ => none
theorem all_ok (hc : X.calm = true) : CallR X (.builtin "all") (rCG X.K gAll) := by
  intro pins s σ H xs us Q I rx h
  obtain ⟨F, R, σ', env, ds, w, r, vw, e, k⟩ := h
  unfold gAll at e
  split at e
  · obtain ⟨bs, hb, e⟩ := Option.map_eq_some_iff.mp e
    cases vw with
    | cons va t =>
      cases t
      obtain ⟨a, vs, rfl, ha, qa⟩ := va
      rw [bls_ok qa hb] at ha
      exact cr_all hc pins s σ H _ us Q I rx ⟨a, bs, rfl, SqL.of ha, scal_bl r (congrArg some e) k⟩
  · cases e
theorem any_ok (hc : X.calm = true) : CallR X (.builtin "any") (rCG X.K gAny) := by
  intro pins s σ H xs us Q I rx h
  obtain ⟨F, R, σ', env, ds, w, r, vw, e, k⟩ := h
  unfold gAny at e
  split at e
  · obtain ⟨bs, hb, e⟩ := Option.map_eq_some_iff.mp e
    cases vw with
    | cons va t =>
      cases t
      obtain ⟨a, vs, rfl, ha, qa⟩ := va
      rw [bls_ok qa hb] at ha
      exact cr_any hc pins s σ H _ us Q I rx ⟨a, bs, rfl, SqL.of ha, scal_bl r (congrArg some e) k⟩
  · cases e
def maxL : List Int → Int
  | [] => 0
  | [x] => x
  | x :: xs => max x (maxL xs)
def minL : List Int → Int
  | [] => 0
  | [x] => x
  | x :: xs => min x (minL xs)
theorem maxL_spec : ∀ {xs : List Int}, xs ≠ [] → maxL xs ∈ xs ∧ ∀ x ∈ xs, x ≤ maxL xs
  | [], h => absurd rfl h
  | [x], _ => ⟨List.mem_cons_self, fun y hy => by rw [List.mem_singleton.mp hy]; exact Int.le_refl _⟩
  | x :: y :: xs, _ => by
    obtain ⟨h1, h2⟩ := maxL_spec (xs := y :: xs) (by simp)
    show max x (maxL (y :: xs)) ∈ _ ∧ ∀ z ∈ _, z ≤ max x (maxL (y :: xs))
    refine ⟨?_, fun z hz => ?_⟩
    · rcases Int.le_total x (maxL (y :: xs)) with h | h
      · rw [Int.max_eq_right h]; exact List.mem_cons_of_mem _ h1
      · rw [Int.max_eq_left h]; exact List.mem_cons_self
    · rcases List.mem_cons.mp hz with rfl | hz
      · omega
      · have := h2 z hz; omega
theorem minL_spec : ∀ {xs : List Int}, xs ≠ [] → minL xs ∈ xs ∧ ∀ x ∈ xs, minL xs ≤ x
  | [], h => absurd rfl h
  | [x], _ => ⟨List.mem_cons_self, fun y hy => by rw [List.mem_singleton.mp hy]; exact Int.le_refl _⟩
  | x :: y :: xs, _ => by
    obtain ⟨h1, h2⟩ := minL_spec (xs := y :: xs) (by simp)
    show min x (minL (y :: xs)) ∈ _ ∧ ∀ z ∈ _, min x (minL (y :: xs)) ≤ z
    refine ⟨?_, fun z hz => ?_⟩
    · rcases Int.le_total x (minL (y :: xs)) with h | h
      · rw [Int.min_eq_left h]; exact List.mem_cons_self
      · rw [Int.min_eq_right h]; exact List.mem_cons_of_mem _ h1
    · rcases List.mem_cons.mp hz with rfl | hz
      · omega
      · have := h2 z hz; omega
def gMax : List D → Option W
  | [.lst ds] => (mapO D.int? ds).bind fun ns => if ns = [] then none else some (.v (.int (maxL ns)))
  | _ => none
def gMin : List D → Option W
  | [.lst ds] => (mapO D.int? ds).bind fun ns => if ns = [] then none else some (.v (.int (minL ns)))
  | _ => none
theorem max_ok (hc : X.calm = true) : CallR X (.builtin "max") (rCG X.K gMax) := by
  intro pins s σ H xs us Q I rx h
  obtain ⟨F, R, σ', env, ds, w, r, vw, e, k⟩ := h
  unfold gMax at e
  split at e
  · obtain ⟨ns, hb, e⟩ := Option.bind_eq_some_iff.mp e
    split at e
    · cases e
    · rename_i hne
      cases vw with
      | cons va t =>
        cases t
        obtain ⟨a, vs, rfl, ha, qa⟩ := va
        rw [nats_ok qa hb] at ha
        refine cr_max hc pins s σ H _ us Q I rx ⟨a, ns, rfl, SqL.of ha, List.length_pos_iff.mpr hne, fun m hm hle => ?_⟩
        have : m = maxL ns := Int.le_antisymm ((maxL_spec hne).2 m hm) (hle _ (maxL_spec hne).1)
        subst this
        exact scal_int r e k
  · cases e
theorem min_ok (hc : X.calm = true) : CallR X (.builtin "min") (rCG X.K gMin) := by
  intro pins s σ H xs us Q I rx h
  obtain ⟨F, R, σ', env, ds, w, r, vw, e, k⟩ := h
  unfold gMin at e
  split at e
  · obtain ⟨ns, hb, e⟩ := Option.bind_eq_some_iff.mp e
    split at e
    · cases e
    · rename_i hne
      cases vw with
      | cons va t =>
        cases t
        obtain ⟨a, vs, rfl, ha, qa⟩ := va
        rw [nats_ok qa hb] at ha
        refine cr_min hc pins s σ H _ us Q I rx ⟨a, ns, rfl, SqL.of ha, List.length_pos_iff.mpr hne, fun m hm hle => ?_⟩
        have : m = minL ns := Int.le_antisymm (hle _ (minL_spec hne).1) ((minL_spec hne).2 m hm)
        subst this
        exact scal_int r e k
  · cases e
def gMax2 : List D → Option W
  | [.int i, .int j] => some (.v (.int (if j > i then j else i)))
  | _ => none
def gMin2 : List D → Option W
  | [.int i, .int j] => some (.v (.int (if j < i then j else i)))
  | _ => none
theorem max2_ok (hc : X.calm = true) : CallR X (.builtin "max") (rCG X.K gMax2) := by
  intro pins s σ H xs us Q I rx h
  obtain ⟨F, R, σ', env, ds, w, r, vw, e, k⟩ := h
  unfold gMax2 at e
  split at e
  · cases vw with
    | cons va t =>
      cases t with
      | cons vb t =>
        cases t
        obtain rfl := RepF.int_eq va
        obtain rfl := RepF.int_eq vb
        exact call_max2 hc pins s σ H _ us Q I rx ⟨_, _, rfl, scal_int r e k⟩
  · cases e
theorem min2_ok (hc : X.calm = true) : CallR X (.builtin "min") (rCG X.K gMin2) := by
  intro pins s σ H xs us Q I rx h
  obtain ⟨F, R, σ', env, ds, w, r, vw, e, k⟩ := h
  unfold gMin2 at e
  split at e
  · cases vw with
    | cons va t =>
      cases t with
      | cons vb t =>
        cases t
        obtain rfl := RepF.int_eq va
        obtain rfl := RepF.int_eq vb
        exact call_min2 hc pins s σ H _ us Q I rx ⟨_, _, rfl, scal_int r e k⟩
  · cases e
def gInt : List D → Option W
  | [.int i] => some (.v (.int i))
  | [.bl b] => some (.v (.int (if b then 1 else 0)))
  | _ => none
theorem int_ok : CallR X (.type "int") (rCG X.K gInt) := by
  intro pins s σ H xs us Q I rx h
  obtain ⟨F, R, σ', env, ds, w, r, vw, e, k⟩ := h
  unfold gInt at e
  split at e
  · cases vw with
    | cons va t =>
      cases t
      obtain rfl := RepF.int_eq va
      exact call_int1 pins s σ H _ us Q I rx (.inl ⟨_, rfl, scal_int r e k⟩)
  · cases vw with
    | cons va t =>
      cases t
      obtain rfl := RepF.bl_eq va
      exact call_int1 pins s σ H _ us Q I rx (.inr ⟨_, rfl, scal_int r e k⟩)
  · cases e
def gBool : List D → Option W
  | [.int i] => some (.v (.bl (i != 0)))
  | [.bl b] => some (.v (.bl b))
  | _ => none
theorem bool_ok : CallR X (.type "bool") (rCG X.K gBool) := by
  intro pins s σ H xs us Q I rx h
  obtain ⟨F, R, σ', env, ds, w, r, vw, e, k⟩ := h
  unfold gBool at e
  split at e
  · cases vw with
    | cons va t =>
      cases t
      obtain rfl := RepF.int_eq va
      exact call_bool1 pins s σ H _ us Q I rx (.inl ⟨_, rfl, scal_bl r e k⟩)
  · cases vw with
    | cons va t =>
      cases t
      obtain rfl := RepF.bl_eq va
      exact call_bool1 pins s σ H _ us Q I rx (.inr ⟨_, rfl, scal_bl r e k⟩)
  · cases e

/-! ### isinstance -/
def D.ty : D → String
  | .non => "NoneType"
  | .bl _ => "bool"
  | .int _ => "int"
  | .str _ => "str"
  | .lst _ => "list"
  | .tup _ => "tuple"
  | .dic _ => "dict"
  | .scr _ => "list"
def isTy (a t : String) : Bool := a == t || (a == "bool" && t == "int")
theorem sqT_ty {vs : List V} (h : SqT K H a vs) (hf : ∀ b (xs : List V), H b ≠ some (.tup xs) → True) : TyX K H (.ref a) (.type "tuple") := by
  rcases h with (h | ⟨o, h⟩) | ⟨o, its, n, h, c, _⟩
  · exact .base (.tup h)
  · exact .fTuple h
  · exact .kTuple h c
theorem view_ty (r : View K F H v d) (hs : ∀ ds, d ≠ .scr ds) : TyX K H v (.type d.ty) := by
  cases d with
  | non => cases r; exact .base .non
  | bl b => cases r; exact .base (.bl b)
  | int i => cases r; exact .base (.int i)
  | str z => cases r; exact .base (.str _)
  | lst ds => obtain ⟨a, vs, rfl, h, _⟩ := r; exact .base (.lst h)
  | tup ds => obtain ⟨a, vs, rfl, h, _⟩ := r; exact sqT_ty h fun _ _ _ => trivial
  | dic ds => obtain ⟨a, vs, rfl, h, _⟩ := r; exact .base (.dK h)
  | scr ds => exact absurd rfl (hs ds)
def notScr : D → Bool
  | .scr _ => false
  | _ => true
def cIs (t : String) (f : EV) : EV := fun env => (f env).bind fun p => (p.1.rd p.2).bind fun d => if notScr d then some (.val (.v (.bl (isTy d.ty t))), p.2) else none
def cIs2 (t t' : String) (f : EV) : EV := fun env => (f env).bind fun p => (p.1.rd p.2).bind fun d => if notScr d then some (.val (.v (.bl (isTy d.ty t || isTy d.ty t'))), p.2) else none
def knownT : List String := ["str", "int", "bool", "list", "tuple", "dict", "NoneType"]
theorem kit_all {t : String} (ht : t ∈ knownT) (d : D) : PySem.W.kitOne K (.type d.ty) (.type t) = some (isTy d.ty t) := by
  have : ∀ a ∈ knownT, ∀ b ∈ knownT, kitB a b = some (isTy a b) := by decide +kernel
  refine kit_ty (this d.ty ?_ t ht)
  cases d <;> simp [D.ty, knownT]
theorem pe_isD {x : Expr} {t : String} {f : EV} {p p2 pos : Pos} (ht : t ∈ knownT) (hg : Gl X "isinstance") (hm : X.mg "isinstance" = none) (hg2 : Gl X t) (hm2 : X.mg t = none) (hv2 : bootBuiltins t = some (.type t)) (hf : PE X x (tOf X.K f))
    (he : starEach [x, .Name t p2] X.env = (false, eval x X.env) :: starEach [.Name t p2] X.env) (he2 : starEach [.Name t p2] X.env = (false, eval (.Name t p2) X.env) :: starEach [] X.env) (hpl : (backTo pos (starEach [.Name t p2] X.env)).any (·.1) = false)
    (hn : (t : Str) ≠ "__name__") (hd : ((t : Str) == ("__debug__" : Str)) = false) :
    PE X (.Call (.Name "isinstance" p) [x, .Name t p2] [] pos) (tOf X.K (cIs t f)) :=
  (pe_callB call_isi hg hm (by decide +kernel) (pa_cons hf (pa_cons (pe_bltn (v := .ty t) hg2 hm2 hv2 rfl hn hd) pa_nil he2) he) (by decide) (by decide) he hpl).imp fun σ H Q ⟨F, R, env, o, env', r, h, k⟩ => by
    unfold cIs at h
    obtain ⟨⟨o1, e1⟩, h1, h⟩ := Option.bind_eq_some_iff.mp h
    obtain ⟨d, h2, h⟩ := Option.bind_eq_some_iff.mp h
    split at h
    · rename_i hs
      cases h
      refine ⟨F, R, env, o1, e1, r, h1, fun v H' F' s' r' q' => ?_⟩
      refine ⟨v, .ty t, .type d.ty, .type t, isTy d.ty t, rfl, .ty t, view_ty (view_ok r' q' h2) (fun ds e => by subst e; cases hs), kit_all ht d, ?_⟩
      exact k _ H' F' s' r' (Tm.frozen (.bl _))
    · cases h
theorem pe_is2D {x : Expr} {t t' : String} {f : EV} {p p2 p3 p4 pos : Pos} {k1 : Nat} (ht : t ∈ knownT) (ht' : t' ∈ knownT) (hg : Gl X "isinstance") (hm : X.mg "isinstance" = none) (hg2 : Gl X t) (hm2 : X.mg t = none) (hv2 : bootBuiltins t = some (.type t))
    (hg3 : Gl X t') (hm3 : X.mg t' = none) (hv3 : bootBuiltins t' = some (.type t')) (hf : PE X x (tOf X.K f))
    (he : starEach [x, .Tuple [.Name t p2, .Name t' p3] k1 p4] X.env = (false, eval x X.env) :: starEach [.Tuple [.Name t p2, .Name t' p3] k1 p4] X.env)
    (he2 : starEach [.Tuple [.Name t p2, .Name t' p3] k1 p4] X.env = (false, eval (.Tuple [.Name t p2, .Name t' p3] k1 p4) X.env) :: starEach [] X.env)
    (he3 : starEach [.Name t p2, .Name t' p3] X.env = (false, eval (.Name t p2) X.env) :: starEach [.Name t' p3] X.env) (he4 : starEach [.Name t' p3] X.env = (false, eval (.Name t' p3) X.env) :: starEach [] X.env)
    (hpl : (backTo pos (starEach [.Tuple [.Name t p2, .Name t' p3] k1 p4] X.env)).any (·.1) = false)
    (hn : (t : Str) ≠ "__name__") (hd : ((t : Str) == ("__debug__" : Str)) = false) (hn' : (t' : Str) ≠ "__name__") (hd' : ((t' : Str) == ("__debug__" : Str)) = false) :
    PE X (.Call (.Name "isinstance" p) [x, .Tuple [.Name t p2, .Name t' p3] k1 p4] [] pos) (tOf X.K (cIs2 t t' f)) :=
  (pe_callB call_isiT hg hm (by decide +kernel) (pa_cons hf (pa_cons (pe_tup (pa_cons (pe_bltn (v := .ty t) hg2 hm2 hv2 rfl hn hd) (pa_cons (pe_bltn (v := .ty t') hg3 hm3 hv3 rfl hn' hd') pa_nil he4) he3)) pa_nil he2) he) (by decide) (by decide) he hpl).imp fun σ H Q ⟨F, R, env, o, env', r, h, k⟩ => by
    unfold cIs2 at h
    obtain ⟨⟨o1, e1⟩, h1, h⟩ := Option.bind_eq_some_iff.mp h
    obtain ⟨d, h2, h⟩ := Option.bind_eq_some_iff.mp h
    split at h
    · rename_i hs
      cases h
      refine ⟨F, R, env, o1, e1, r, h1, fun v H' F' s' r' q' => ⟨by show 2 ≤ sizeLine; decide, fun tp htp => ?_⟩⟩
      have vw := view_ok r' q' h2
      have r2 := r'.grow (Same.upd (u := HO.tup [V.ty t, V.ty t']) htp)
      have vw2 : TyX X.K (upd H' tp (.tup [V.ty t, V.ty t'])) v (.type d.ty) := by
        have q2 : RepF X.K (upd H' tp (.tup [V.ty t, V.ty t'])) v d := RepF.mono (Same.upd htp) (vw.rep r'.fH)
        exact view_ty (q2.view (Same.refl _)) (fun ds e => by subst e; cases hs)
      refine ⟨v, tp, [V.ty t, V.ty t'], .type d.ty, [.type t, .type t'], isTy d.ty t || isTy d.ty t', rfl, upd_same, .cons (.ty t) (.cons (.ty t') .nil), vw2, ?_, ?_⟩
      · have e1 := kit_all (K := X.K) ht d
        have e2 := kit_all (K := X.K) ht' d
        show (match PySem.W.kitOne X.K (.type d.ty) (.type t) with | some true => some true | some false => (match PySem.W.kitOne X.K (.type d.ty) (.type t') with | some true => some true | some false => some false | none => none) | none => none) = _
        rw [e1, e2]
        cases isTy d.ty t <;> cases isTy d.ty t' <;> rfl
      · exact k _ _ F' s' r2 (Tm.frozen (.bl _))
    · cases h
end
end PD

set_option Elab.async false
set_option linter.all false
set_option maxRecDepth 100000
/-! P13: methods. -/
namespace PD
open PySem PySem.Spec L2
open PyProof.Rows hiding St

section
variable {K : PySem.W.Frag} {F F' R H H' : Hp} {σ : L2.St} {env env' : Env} {v : V} {w : W} {a : Addr} {o : Opd} {d : D} {P : List Nat}
variable {X : Cx} {e : Expr} {es : List Expr} {pos : Pos}
/-! ### methods that only read -/
def rMG (K : PySem.W.Frag) (g : D → List D → Option W) : V → List V → Hp → VK → Prop := fun x vs H Q => ∃ F R σ env d ds w, Rp K F R H σ env ∧ View K F H x d ∧ Views K F H vs ds ∧ g d ds = some w ∧ ∀ v H' F', Same F F' → Rp K F' R H' σ env → Tm K F' R H' σ env v w → Q v H'
def cM (T : String) (g : D → List D → Option W) (fo : EV) (ga : AV) : EV := fun env => (fo env).bind fun p => (p.1.rd p.2).bind fun d0 => if d0.ty = T ∧ notScr d0 then (ga p.2).bind fun q => (p.1.rd q.2).bind fun d => (rds q.1 q.2).bind fun ds => (g d ds).map fun w => (.val w, q.2) else none
theorem tyV_view {T : String} (hT : T = "str" ∨ T = "list" ∨ T = "dict") (r : View K F H v d) (h : d.ty = T) (hs : notScr d = true) : tyV K T v H := by
  cases d with
  | str z => cases r; exact h.symm
  | lst ds => obtain ⟨a, vs, rfl, hh, _⟩ := r; exact .inl ⟨h.symm, vs, SqL.of hh⟩
  | dic ds => obtain ⟨a, vs, rfl, hh, _⟩ := r; exact .inr (.inr (.inl ⟨h.symm, .inl ⟨vs, hh⟩⟩))
  | scr ds => cases hs
  | non => subst h; exact absurd hT (by decide)
  | bl b => subst h; exact absurd hT (show ¬ (("bool" : String) = "str" ∨ ("bool" : String) = "list" ∨ ("bool" : String) = "dict") by decide)
  | int b => subst h; exact absurd hT (show ¬ (("int" : String) = "str" ∨ ("int" : String) = "list" ∨ ("int" : String) = "dict") by decide)
  | tup b => subst h; exact absurd hT (show ¬ (("tuple" : String) = "str" ∨ ("tuple" : String) = "list" ∨ ("tuple" : String) = "dict") by decide)
theorem cM_imp {T : String} {g : D → List D → Option W} {fo : EV} {ga : AV} {Q : VK} (hT : T = "str" ∨ T = "list" ∨ T = "dict") (h : tOf K (cM T g fo ga) σ H Q) : tBM K T (rMG K g) (tOf K fo) (taOf K ga) σ H Q := by
  obtain ⟨F, R, env, o, env', r, h, k⟩ := h
  unfold cM at h
  obtain ⟨⟨oo, e1⟩, h1, h⟩ := Option.bind_eq_some_iff.mp h
  obtain ⟨d0, h2, h⟩ := Option.bind_eq_some_iff.mp h
  split at h
  · rename_i hty
    obtain ⟨⟨os, e2⟩, h3, h⟩ := Option.bind_eq_some_iff.mp h
    obtain ⟨d, h4, h⟩ := Option.bind_eq_some_iff.mp h
    obtain ⟨ds, h5, h⟩ := Option.bind_eq_some_iff.mp h
    obtain ⟨w, h6, h⟩ := Option.map_eq_some_iff.mp h
    cases h
    refine ⟨F, R, env, oo, e1, r, h1, fun x H1 F1 s1 r1 q1 => ⟨tyV_view hT (view_ok r1 q1 h2) hty.1 hty.2, ?_⟩⟩
    refine ⟨F1, frm R H1 (oO oo x), e1, os, e2, frame_in r1 q1, h3, fun vs H2 F2 s2 r2 q2 => ?_⟩
    have qq := q2.behind q1 s2 r2
    have r3 := (frame_out r2 s2 q1).1
    cases qq with
    | cons qa _ t => exact ⟨F2, R, σ, e2, d, ds, w, r3, view_ok r3 qa h4, rds_ok r3 t h5, h6, fun v H' F' s' r' t' => k v H' F' (s1.trans (s2.trans s')) r' t'⟩
  · cases h
theorem pe_mD {T id : String} {name : Str} {apos : Pos} {oe : Expr} {g : D → List D → Option W} {fo : EV} {ga : AV} (hT : T = "str" ∨ T = "list" ∨ T = "dict") (pa : PlainAttrs T) (slot : Slot T name id) (hty : typeOf (.builtin id) = pure (.type "method_descriptor")) (hm : MtR X id (rMG X.K g)) (ho : PE X oe (tOf X.K fo)) (ha : PA X (e :: es) (taOf X.K ga))
    (hbase : attributeBase oe name X.env (eval oe X.env) = eval oe X.env)
    (hfew : ((backTo pos (starEach (e :: es) X.env)).all (fun x => !x.1) && (backToKw pos (keywordEach [] X.env)).all (fun x => x.1.isSome)
      && decide ((e :: es).length + ([] : List Keyword).length + (if ([] : List Keyword).isEmpty then 0 else 1) < 30)) = true)
    (hline : (apos.endLine == pos.line) = true) (hs : starEach (e :: es) X.env = (false, eval e X.env) :: starEach es X.env) (hplain : (backTo pos (starEach es X.env)).any (·.1) = false) :
    PE X (.Call (.Attribute oe name apos) (e :: es) [] pos) (tOf X.K (cM T g fo ga)) := (pe_bm pa slot hty hm ho ha hbase hfew hline hs hplain).imp fun _ _ _ h => cM_imp hT h

/-! texts -/
/-- the last place of c, or -1 -/
def rfindC (c : Nat) : List Nat → Int
  | [] => -1
  | x :: xs => let r := rfindC c xs; if 0 ≤ r then r + 1 else if x = c then 0 else -1
theorem rfindC_neg {c : Nat} : ∀ {z : List Nat}, c ∉ z → rfindC c z = -1
  | [], _ => rfl
  | x :: xs, h => by
    simp only [List.mem_cons, not_or] at h
    show (if 0 ≤ rfindC c xs then rfindC c xs + 1 else if x = c then 0 else -1) = -1
    rw [rfindC_neg h.2, if_neg (by decide), if_neg fun e => h.1 e.symm]
theorem rfindC_at {c : Nat} : ∀ {z : List Nat} {i : Nat}, z[i]? = some c → (∀ k, i < k → z[k]? ≠ some c) → rfindC c z = i
  | [], i, h, _ => by simp at h
  | x :: xs, 0, h, hn => by
    have hx : x = c := by simpa using h
    have : c ∉ xs := fun hm => by
      obtain ⟨k, hk⟩ := List.mem_iff_getElem?.mp hm
      exact hn (k + 1) (by omega) (by simpa using hk)
    show (if 0 ≤ rfindC c xs then rfindC c xs + 1 else if x = c then 0 else -1) = _
    rw [rfindC_neg this, if_neg (by decide), if_pos hx]; rfl
  | x :: xs, i + 1, h, hn => by
    have ih := rfindC_at (z := xs) (i := i) (by simpa using h) fun k hk => by
      have := hn (k + 1) (by omega)
      simpa using this
    show (if 0 ≤ rfindC c xs then rfindC c xs + 1 else if x = c then 0 else -1) = _
    rw [ih, if_pos (by omega)]; rfl
theorem rfind_eq (z : List Nat) (c : Nat) : Txt.rfind ⟨z.toArray⟩ ⟨#[c]⟩ = rfindC c z := by
  have hy : TL.tl ⟨#[c]⟩ ≠ [] := by show [c] ≠ []; simp
  have at' : ∀ i, StrLaws.At ⟨z.toArray⟩ ⟨#[c]⟩ (⟨z.toArray⟩ : Str).length i ↔ z[i]? = some c := fun i => by
    rw [TL.at_iff hy i]
    show ((z.drop i).take 1 == [c]) = true ↔ _
    cases h : z.drop i with
    | nil =>
      have : z[i]? = none := by
        rw [← List.head?_drop, h]; rfl
      rw [this]
      simp
    | cons x xs =>
      have : z[i]? = some x := by
        rw [← List.head?_drop, h]; rfl
      rw [this]
      simp
  rcases rfind_whole (⟨z.toArray⟩ : Str) ⟨#[c]⟩ with ⟨h1, h2⟩ | ⟨i, h1, h2, h3⟩
  · rw [h1]
    refine (rfindC_neg fun hm => ?_).symm
    obtain ⟨k, hk⟩ := List.mem_iff_getElem?.mp hm
    exact h2 k ((at' k).mpr hk)
  · rw [h1]
    exact (rfindC_at ((at' i).mp h2) fun k hk hc => h3 k hk ((at' k).mpr hc)).symm
def gRfind : D → List D → Option W
  | .str z, [.str [c]] => some (.v (.int (rfindC c z)))
  | _, _ => none
theorem rfind_ok : MtR X "str.rfind" (rMG X.K gRfind) := by
  intro pins s σ H x xs v us Q I rx rs h
  obtain ⟨F, R, σ', env, d, ds, w, r, va, vw, e, k⟩ := h
  unfold gRfind at e
  split at e
  · obtain ⟨rfl, _⟩ := RepF.str_eq va
    cases vw with
    | cons vb t =>
      cases t
      obtain ⟨rfl, _⟩ := RepF.str_eq vb
      refine mt_rfind pins s σ H _ _ v us Q I rx rs ⟨_, _, rfl, rfl, ?_⟩
      rw [rfind_eq]
      exact scal_int r e k
  · cases e
def gStarts : D → List D → Option W
  | .str z, [.str y] => some (.v (.bl (y.isPrefixOf z)))
  | _, _ => none
theorem starts_eq (z y : List Nat) : Txt.startswith ⟨z.toArray⟩ ⟨y.toArray⟩ = y.isPrefixOf z := by
  unfold Txt.startswith
  rw [StrLaws.subAt_eq]
  show (decide (0 + y.toArray.size ≤ z.toArray.size) && ((z.drop 0).take y.toArray.size == y)) = _
  rw [List.size_toArray, List.size_toArray, List.drop_zero, Nat.zero_add]
  rw [Bool.eq_iff_iff, Bool.and_eq_true, decide_eq_true_eq, beq_iff_eq, List.isPrefixOf_iff_prefix, List.prefix_iff_eq_take]
  constructor
  · intro h; exact h.2.symm
  · intro h
    refine ⟨?_, h.symm⟩
    have := congrArg List.length h
    rw [List.length_take] at this
    omega
theorem starts_ok : MtR X "str.startswith" (rMG X.K gStarts) := by
  intro pins s σ H x xs v us Q I rx rs h
  obtain ⟨F, R, σ', env, d, ds, w, r, va, vw, e, k⟩ := h
  unfold gStarts at e
  split at e
  · obtain ⟨rfl, _⟩ := RepF.str_eq va
    cases vw with
    | cons vb t =>
      cases t
      obtain ⟨rfl, _⟩ := RepF.str_eq vb
      refine mt_startswith pins s σ H _ _ v us Q I rx rs ⟨_, _, rfl, rfl, ?_⟩
      rw [starts_eq]
      exact scal_bl r e k
  · cases e
/-- z cut at each c -/
def splitC (c : Nat) : List Nat → List (List Nat)
  | [] => [[]]
  | x :: xs => if x = c then [] :: splitC c xs else match splitC c xs with
    | [] => [[x]]
    | p :: ps => (x :: p) :: ps
theorem splitC_cons (c x : Nat) (xs : List Nat) : splitC c (x :: xs) = if x = c then [] :: splitC c xs else match splitC c xs with | [] => [[x]] | p :: ps => (x :: p) :: ps := rfl
theorem splitC_ne (c : Nat) : ∀ z, splitC c z ≠ []
  | [] => by simp [splitC]
  | x :: xs => by
    rw [splitC_cons]
    split
    · simp
    · split <;> simp
theorem spl_splitC (c : Nat) : ∀ (z acc : List Nat), TL.spl [c] 0 acc z = match splitC c z with
    | [] => [acc]
    | p :: ps => (acc ++ p) :: ps
  | [], acc => by simp [splitC, TL.spl_nil]
  | x :: xs, acc => by
    by_cases h : x = c
    · subst h
      have hp : TL.pre [x] (x :: xs) = true := by simp [TL.pre]
      rw [TL.spl_hit hp]
      show acc :: TL.spl [x] 0 [] xs = _
      rw [spl_splitC x xs [], splitC_cons, if_pos rfl]
      have := splitC_ne x xs
      cases hs : splitC x xs with
      | nil => exact absurd hs this
      | cons p ps => simp
    · have hp : TL.pre [c] (x :: xs) = false := by simp [TL.pre, h]
      rw [TL.spl_miss hp, spl_splitC c xs (acc ++ [x])]
      have := splitC_ne c xs
      rw [splitC_cons, if_neg h]
      cases hs : splitC c xs with
      | nil => exact absurd hs this
      | cons p ps => simp
theorem splitC_ok {c : Nat} : ∀ {z : List Nat}, (∀ p ∈ splitC c z, p.Sublist z)
  | [], p, h => by
    simp [splitC] at h
    subst h
    exact List.nil_sublist _
  | x :: xs, p, h => by
    have ih := splitC_ok (c := c) (z := xs)
    rw [splitC_cons] at h
    split at h
    · rcases List.mem_cons.mp h with rfl | h
      · exact List.nil_sublist _
      · exact (ih p h).trans (List.sublist_cons_self _ _)
    · split at h
      · rcases List.mem_cons.mp h with rfl | h
        · exact (List.nil_sublist xs).cons₂ x
        · cases h
      · rename_i q ps hq
        rcases List.mem_cons.mp h with rfl | h
        · exact (ih q (by rw [hq]; exact List.mem_cons_self)).cons₂ x
        · exact (ih p (by rw [hq]; exact List.mem_cons_of_mem _ h)).trans (List.sublist_cons_self _ _)
def gSplit : D → List D → Option W
  | .str z, [.str [c]] => if z.length + 2 ≤ sizeLine ∧ c < 256 then some (.l ((splitC c z).map D.str)) else none
  | _, _ => none
theorem strs_rep : ∀ (zs : List (List Nat)), (∀ z ∈ zs, okS z) → RepFs K F ((zs.map fun z => (⟨z.toArray⟩ : Str)).map V.str) (zs.map D.str)
  | [], _ => .nil
  | z :: zs, h => .cons (.str z (h z List.mem_cons_self)) (strs_rep zs fun z' h' => h z' (List.mem_cons_of_mem _ h'))
theorem split_ok : MtR X "str.split" (rMG X.K gSplit) := by
  intro pins s σ H x xs v us Q I rx rs h
  obtain ⟨F, R, σ', env, d, ds, w, r, va, vw, e, k⟩ := h
  unfold gSplit at e
  split at e
  · split at e
    · rename_i z c hz
      obtain ⟨rfl, ho⟩ := RepF.str_eq va
      cases vw with
      | cons vb t =>
        cases t
        obtain ⟨rfl, _⟩ := RepF.str_eq vb
        refine mt_split pins s σ H _ _ v us Q I rx rs ⟨_, _, rfl, rfl, rfl, by simpa [Str.length] using hz.1, ?_⟩
        have hy : TL.tl ⟨#[c]⟩ ≠ [] := by show [c] ≠ []; simp
        have e1 : Txt.split ⟨z.toArray⟩ ⟨#[c]⟩ = (splitC c z).map fun p => (⟨p.toArray⟩ : Str) := by
          apply TL.map_tl_inj
          rw [TL.split_spl _ _ hy (TL.kind_ok (by simp; exact hz.2))]
          show TL.spl [c] 0 [] z = _
          rw [spl_splitC c z [], List.map_map]
          have : (TL.tl ∘ fun p : List Nat => (⟨p.toArray⟩ : Str)) = id := by funext p; rfl
          rw [this, List.map_id]
          have := splitC_ne c z
          cases hs : splitC c z with
          | nil => exact absurd hs this
          | cons p ps => simp
        show ∀ p, H p = none → _
        rw [e1]
        exact scal_lst r (strs_rep _ fun p hp => ho.sub (splitC_ok p hp)) e k
    · cases e
  · cases e
def joinD (y : List Nat) : List (List Nat) → List Nat
  | [] => []
  | [x] => x
  | x :: x' :: xs => x ++ (y ++ joinD y (x' :: xs))
theorem joinL_D (y : List Nat) : ∀ zs, TL.joinL y zs = joinD y zs
  | [] => rfl
  | [x] => rfl
  | x :: x' :: xs => by
    show x ++ (y ++ TL.joinL y (x' :: xs)) = x ++ (y ++ joinD y (x' :: xs))
    rw [joinL_D y (x' :: xs)]
def gJoin : D → List D → Option W
  | .str y, [d] => d.els.bind fun ds => (mapO D.str? ds).bind fun zs => if (zs.map List.length).sum + zs.length * y.length ≤ sizeLine then some (.v (.str (joinD y zs))) else none
  | _, _ => none
theorem joinD_okc {y : List Nat} (hy : ∀ c ∈ y, c < 1114112) : ∀ {zs : List (List Nat)}, (∀ z ∈ zs, ∀ c ∈ z, c < 1114112) → ∀ c ∈ joinD y zs, c < 1114112
  | [], _, c, h => by cases h
  | [x], hz, c, h => hz x List.mem_cons_self c h
  | x :: x' :: xs, hz, c, h => by
    have h : c ∈ x ++ (y ++ joinD y (x' :: xs)) := h
    rcases List.mem_append.mp h with h | h
    · exact hz x List.mem_cons_self c h
    · rcases List.mem_append.mp h with h | h
      · exact hy c h
      · exact joinD_okc hy (fun z hz' => hz z (List.mem_cons_of_mem _ hz')) c h
theorem joinD_len (y : List Nat) : ∀ (zs : List (List Nat)), (joinD y zs).length ≤ (zs.map List.length).sum + zs.length * y.length
  | [] => Nat.zero_le _
  | [x] => by simp [joinD]
  | x :: x' :: xs => by
    have ih := joinD_len y (x' :: xs)
    show (x ++ (y ++ joinD y (x' :: xs))).length ≤ _
    rw [List.length_append, List.length_append, List.map_cons, List.sum_cons, List.length_cons, Nat.add_mul]
    omega
theorem join_ok : MtR X "str.join" (rMG X.K gJoin) := by
  intro pins s σ H x xs v us Q I rx rs h
  obtain ⟨F, R, σ', env, d, ds, w, r, va, vw, e, k⟩ := h
  unfold gJoin at e
  split at e
  · rename_i y d1
    obtain ⟨ds1, h1, e⟩ := Option.bind_eq_some_iff.mp e
    obtain ⟨zs, h2, e⟩ := Option.bind_eq_some_iff.mp e
    split at e
    · rename_i hz
      obtain ⟨rfl, ho⟩ := RepF.str_eq va
      cases vw with
      | cons vb t =>
        cases t
        obtain ⟨a, vs, rfl, ha, qa⟩ := els_ok vb h1
        obtain ⟨e1, e2⟩ := strs_ok qa h2
        rw [e1] at ha
        have hl : ((zs.map fun z => (⟨z.toArray⟩ : Str)).map (·.length)) = zs.map List.length := by
          rw [List.map_map]
          apply List.map_congr_left
          intro z _
          simp [Str.length]
        refine mt_join pins s σ H _ _ v us Q I rx rs ⟨_, a, zs.map fun z => (⟨z.toArray⟩ : Str), rfl, rfl, ha.symm, ?_, ?_⟩
        · rw [hl, List.length_map]
          have : (⟨y.toArray⟩ : Str).length = y.length := by simp [Str.length]
          rw [this]
          exact hz
        · have ej : Txt.join ⟨y.toArray⟩ (zs.map fun z => (⟨z.toArray⟩ : Str)) = ⟨(joinD y zs).toArray⟩ := by
            rw [TL.join_eq]
            apply TL.ext_tl
            rw [TL.tl_join]
            show TL.joinL y _ = joinD y zs
            rw [List.map_map]
            have : (TL.tl ∘ fun p : List Nat => (⟨p.toArray⟩ : Str)) = id := by funext p; rfl
            rw [this, List.map_id]
            exact joinL_D y zs
          rw [ej]
          exact scal_str r ⟨Nat.le_trans (joinD_len y zs) hz, joinD_okc ho.2 fun z hz' => (e2 z hz').2⟩ e k
    · cases e
  · cases e
end
end PD

set_option Elab.async false
set_option linter.all false
set_option maxRecDepth 100000
/-! P14: methods that change a list; index; dict get. -/
namespace PD
open PySem PySem.Spec L2
open PyProof.Rows hiding St

section
variable {K : PySem.W.Frag} {F F' R H H' : Hp} {σ : L2.St} {env env' : Env} {v : V} {w : W} {a : Addr} {o : Opd} {d : D} {P : List Nat}
variable {X : Cx} {e : Expr} {es : List Expr} {pos : Pos}
/-- a method of the list at a slot, by data: the list, the arguments; the answer, the list behind -/
abbrev MV := List D → List D → Option (D × List D)
def rMut (K : PySem.W.Frag) (g : MV) : V → List V → Hp → VK → Prop := fun x vs H Q => ∃ F a xs xds ds r ys, x = .ref a ∧ H a = some (.lst xs) ∧ RepFs K F xs xds ∧ RepFs K F vs ds ∧ Same F H ∧ F a = none ∧ g xds ds = some (r, ys) ∧
  ∀ v zs, RepF K F v r → RepFs K F zs ys → Q v (upd H a (.lst zs))
def cMut (g : MV) (fo : EV) (ga : AV) : EV := fun env => (fo env).bind fun p => match p.1 with
  | .ref j => match gt p.2 j with
    | some (.l _) => (ga p.2).bind fun q => (frzs q.1 q.2).bind fun t => match gt t.2 j with
      | some (.l xs) => (g xs t.1).map fun u => (.val (.v u.1), t.2.set j (some (.l u.2)))
      | _ => none
    | _ => none
  | _ => none
theorem cMut_imp {g : MV} {fo : EV} {ga : AV} {Q : VK} (h : tOf K (cMut g fo ga) σ H Q) : tBM K "list" (rMut K g) (tOf K fo) (taOf K ga) σ H Q := by
  obtain ⟨F, R, env, o, env', r, h, k⟩ := h
  unfold cMut at h
  obtain ⟨⟨oo, e1⟩, h1, h⟩ := Option.bind_eq_some_iff.mp h
  cases oo with
  | val w => cases h
  | ref j =>
    simp only at h
    split at h
    · rename_i xs0 hg0
      obtain ⟨⟨os, e2⟩, h2, h⟩ := Option.bind_eq_some_iff.mp h
      obtain ⟨⟨ds, e3⟩, h3, h⟩ := Option.bind_eq_some_iff.mp h
      simp only at h
      split at h
      · rename_i xs hg
        obtain ⟨⟨rd, ys⟩, h4, h⟩ := Option.map_eq_some_iff.mp h
        cases h
        refine ⟨F, R, env, .ref j, e1, r, h1, fun x H1 F1 s1 r1 q1 => ⟨?_, ?_⟩⟩
        · obtain ⟨a, vs, rfl, hh, _⟩ := r1.at (gt_some.mp hg0) q1
          exact .inl ⟨rfl, vs, SqL.of hh⟩
        · refine ⟨F1, R, e1, os, e2, r1, h2, fun vs H2 F2 s2 r2 q2 => ?_⟩
          obtain ⟨F3, s3, r3, q3⟩ := frzs_ok r2 q2 h3
          have hx : σ[j]? = some (some x) := q1
          obtain ⟨a, xv, rfl, hh, qx⟩ := r3.at (gt_some.mp hg) hx
          refine ⟨F3, a, xv, xs, ds, rd, ys, rfl, hh, qx, q3, r3.fH, (r3.nF j a ⟨_, _, gt_some.mp hg, hx, rfl⟩).1, h4, fun v zs hv hz => ?_⟩
          exact k v _ F3 (s1.trans (s2.trans s3)) (r3.chg (gt_some.mp hg) hx rfl ⟨a, zs, rfl, upd_same, hz⟩) (Tm.frozen hv)
      · cases h
    · cases h
theorem pe_mutD {id : String} {name : Str} {apos : Pos} {oe : Expr} {g : MV} {fo : EV} {ga : AV} (slot : Slot "list" name id) (hty : typeOf (.builtin id) = pure (.type "method_descriptor")) (hm : MtR X id (rMut X.K g)) (ho : PE X oe (tOf X.K fo)) (ha : PA X (e :: es) (taOf X.K ga))
    (hbase : attributeBase oe name X.env (eval oe X.env) = eval oe X.env)
    (hfew : ((backTo pos (starEach (e :: es) X.env)).all (fun x => !x.1) && (backToKw pos (keywordEach [] X.env)).all (fun x => x.1.isSome)
      && decide ((e :: es).length + ([] : List Keyword).length + (if ([] : List Keyword).isEmpty then 0 else 1) < 30)) = true)
    (hline : (apos.endLine == pos.line) = true) (hs : starEach (e :: es) X.env = (false, eval e X.env) :: starEach es X.env) (hplain : (backTo pos (starEach es X.env)).any (·.1) = false) :
    PE X (.Call (.Attribute oe name apos) (e :: es) [] pos) (tOf X.K (cMut g fo ga)) := (pe_bm PySem.F.plainAttrs_list slot hty hm ho ha hbase hfew hline hs hplain).imp fun _ _ _ h => cMut_imp h
theorem pe_mut0D {id : String} {name : Str} {apos : Pos} {oe : Expr} {g : MV} {fo : EV} (slot : Slot "list" name id) (hty : typeOf (.builtin id) = pure (.type "method_descriptor")) (hm : MtR X id (rMut X.K g)) (ho : PE X oe (tOf X.K fo))
    (hbase : attributeBase oe name X.env (eval oe X.env) = eval oe X.env) (hline : (apos.endLine == pos.line) = true) :
    PE X (.Call (.Attribute oe name apos) [] [] pos) (tOf X.K (cMut g fo argsN)) := (pe_bm0 PySem.F.plainAttrs_list slot hty hm ho hbase hline).imp fun σ H Q h => by
  refine ?_
  have := cMut_imp h
  obtain ⟨F, R, env, o, env', r, h1, k⟩ := this
  refine ⟨F, R, env, o, env', r, h1, fun v H' F' s' r' q' => ?_⟩
  obtain ⟨k1, F1, R1, env1, os, e1, r1, h2, k2⟩ := k v H' F' s' r' q'
  refine ⟨k1, ?_⟩
  cases h2
  exact k2 [] H' F1 (Same.refl F1) r1 .nil
def gAppend : MV
  | xs, [d] => if xs.length < sizeLine then some (.non, xs ++ [d]) else none
  | _, _ => none
theorem append_ok : MtR X "list.append" (rMut X.K gAppend) := by
  intro pins s σ H x xs v us Q I rx rs h
  obtain ⟨F, a, xv, xds, ds, r, ys, rfl, hh, qx, qv, sF, nF, e, k⟩ := h
  unfold gAppend at e
  split at e
  · split at e
    · rename_i hz
      cases e
      cases qv with
      | cons q t =>
        cases t
        exact mt_append pins s σ H _ _ v us Q I rx rs ⟨a, xv, _, rfl, rfl, hh, by rw [qx.length]; exact hz, k .non _ .non (qx.append (.cons q .nil))⟩
    · cases e
  · cases e
def gPop0 : MV
  | xs, [] => (xs[xs.length - 1]?).map fun d => (d, xs.dropLast)
  | _, _ => none
theorem RepFs.dropLast {vs : List V} {ds : List D} (q : RepFs K F vs ds) : RepFs K F vs.dropLast ds.dropLast := by
  rw [List.dropLast_eq_take, List.dropLast_eq_take, q.length]
  exact q.take _
theorem pop0_ok : MtR X "list.pop" (rMut X.K gPop0) := by
  intro pins s σ H x xs v us Q I rx rs h
  obtain ⟨F, a, xv, xds, ds, r, ys, rfl, hh, qx, qv, sF, nF, e, k⟩ := h
  unfold gPop0 at e
  split at e
  · obtain ⟨d, hd, e⟩ := Option.map_eq_some_iff.mp e
    cases e
    cases qv
    obtain ⟨y, hy, qy⟩ := qx.get hd
    exact mt_pop pins s σ H _ _ v us Q I rx rs ⟨a, xv, y, rfl, rfl, hh, by rw [qx.length]; exact hy, k y _ qy qx.dropLast⟩
  · cases e
def gPopAt : MV
  | xs, [.int i] => if -(2 ^ 63) ≤ i ∧ i < 2 ^ 63 then (ixN xs.length i).bind fun j => (xs[j]?).map fun d => (d, xs.eraseIdx j) else none
  | _, _ => none
theorem popAt_ok : MtR X "list.pop" (rMut X.K gPopAt) := by
  intro pins s σ H x xs v us Q I rx rs h
  obtain ⟨F, a, xv, xds, ds, r, ys, rfl, hh, qx, qv, sF, nF, e, k⟩ := h
  unfold gPopAt at e
  split at e
  · split at e
    · rename_i hb
      obtain ⟨j, hj, e⟩ := Option.bind_eq_some_iff.mp e
      obtain ⟨d, hd, e⟩ := Option.map_eq_some_iff.mp e
      cases e
      cases qv with
      | cons q t =>
        cases t
        obtain rfl := RepF.int_eq q
        obtain ⟨y, hy, qy⟩ := qx.get hd
        obtain ⟨h1, _⟩ := ixN_seq hj
        exact mt_popAt pins s σ H _ _ v us Q I rx rs ⟨a, xv, _, j, y, rfl, rfl, hh, hb.1, hb.2, by rw [qx.length]; exact h1, hy, k y _ qy (qx.eraseIdx j)⟩
    · cases e
  · cases e
def gInsert : MV
  | xs, [.int i, d] => if 0 ≤ i ∧ i < 2 ^ 63 ∧ xs.length < sizeLine then some (.non, xs.take i.toNat ++ [d] ++ xs.drop i.toNat) else none
  | _, _ => none
theorem insert_ok : MtR X "list.insert" (rMut X.K gInsert) := by
  intro pins s σ H x xs v us Q I rx rs h
  obtain ⟨F, a, xv, xds, ds, r, ys, rfl, hh, qx, qv, sF, nF, e, k⟩ := h
  unfold gInsert at e
  split at e
  · split at e
    · rename_i hb
      cases e
      cases qv with
      | cons q t =>
        cases t with
        | cons q2 t =>
          cases t
          obtain rfl := RepF.int_eq q
          exact mt_insert pins s σ H _ _ v us Q I rx rs ⟨a, xv, _, _, rfl, rfl, hh, by rw [qx.length]; exact hb.2.2, hb.1, hb.2.1, k .non _ .non (((qx.take _).append (.cons q2 .nil)).append (qx.drop _))⟩
    · cases e
  · cases e
/-- the first place of an equal one -/
def firstI (d : D) : List D → Option Nat
  | [] => none
  | x :: xs => if D.eqv x d then some 0 else (firstI d xs).map (· + 1)
theorem firstI_spec {d : D} : ∀ {xs : List D} {j : Nat}, firstI d xs = some j → (∃ x, xs[j]? = some x ∧ D.eqv x d = true) ∧ ∀ m x, m < j → xs[m]? = some x → D.eqv x d = false
  | [], j, h => by cases h
  | x :: xs, j, h => by
    unfold firstI at h
    split at h
    · rename_i hx
      cases h
      exact ⟨⟨x, rfl, hx⟩, fun m y hm => absurd hm (Nat.not_lt_zero m)⟩
    · rename_i hx
      obtain ⟨i, hi, rfl⟩ := Option.map_eq_some_iff.mp h
      obtain ⟨⟨y, h1, h2⟩, h3⟩ := firstI_spec hi
      refine ⟨⟨y, by simpa using h1, h2⟩, fun m z hm hz => ?_⟩
      cases m with
      | zero =>
        simp at hz
        subst hz
        simpa using hx
      | succ m => exact h3 m z (by omega) (by simpa using hz)
theorem mt_removeF : MtR X "list.remove" (fun x vs H Q => ∃ (l : Addr) (xs : List V) (y z : V) (j : Nat), x = .ref l ∧ vs = [y] ∧ H l = some (.lst xs) ∧ flatV y = true ∧ xs.all flatV = true ∧ xs[j]? = some z ∧ L2.eqV z y = true ∧
    (∀ (m : Nat) (z' : V), m < j → xs[m]? = some z' → L2.eqV z' y = false) ∧ Q .non (upd H l (.lst (xs.eraseIdx j)))) := by
  intro pins s σ H x xs v us Q I rx rxs h
  obtain ⟨l, ys, y, z, j, rfl, rfl, hH, fy, fys, hz, hzj, hno, q⟩ := h
  cases rx
  obtain ⟨uy, rfl, ry⟩ := rxs.one
  obtain ⟨hsz, its, n, rv, hl, e⟩ := I.lstM hH
  obtain ⟨u, hu, ru⟩ := rv.get hz
  obtain ⟨hjl, hje⟩ := List.getElem?_eq_some_iff.mp hu
  have hj : j < its.toArray.size := by simpa using hjl
  refine call_meets PySem.F.slot_list_remove ⟨_, e, rfl⟩ PySem.F.entry_list_remove (PySem.F.args_list_remove_2 _ _)
    (SeqAt.list_removeAt l its.toArray n none #[] uy (eqU y) j hj ?_ ?_ (by rw [List.size_toArray]; omega)) ⟨e, fun u' hu' => mem_eqAt ry fy rv fys u' (by simpa using hu'), ?_⟩
  · have e1 : its.toArray[j] = u := by simpa using hje
    rw [e1, eqU_of ru (flat_at fys hz)]
    exact hzj
  · intro m hm hmj
    have hml : m < its.length := by simpa using hm
    have hmy : m < ys.length := by omega
    have hy' : ys[m]? = some ys[m] := List.getElem?_eq_getElem hmy
    obtain ⟨u2, hu2, ru2⟩ := rv.get hy'
    obtain ⟨_, hme⟩ := List.getElem?_eq_some_iff.mp hu2
    have e1 : its.toArray[m] = u2 := by simpa using hme
    rw [e1, eqU_of ru2 (flat_at fys hy')]
    exact hno m _ hmj hy'
  · refine ⟨.non, _, I.lset (its' := its.eraseIdx j) (ys := ys.eraseIdx j) hH e ?_ (rv.eraseIdx j) ?_, rfl, q⟩
    · have hjl' : j < its.length := by simpa using hj
      simp [Array.eraseIdxIfInBounds, hjl', List.eraseIdx_toArray]
    · exact Nat.le_trans (len_erase ys j) hsz
def gRemove : MV
  | xs, [d] => if d.flat && xs.all D.flat then (firstI d xs).map fun j => (.non, xs.eraseIdx j) else none
  | _, _ => none
theorem remove_ok : MtR X "list.remove" (rMut X.K gRemove) := by
  intro pins s σ H x xs v us Q I rx rs h
  obtain ⟨F, a, xv, xds, ds, r, ys, rfl, hh, qx, qv, sF, nF, e, k⟩ := h
  unfold gRemove at e
  split at e
  · split at e
    · rename_i hb
      rw [Bool.and_eq_true] at hb
      obtain ⟨j, hj, e⟩ := Option.map_eq_some_iff.mp e
      cases e
      cases qv with
      | cons q t =>
        cases t
        obtain ⟨⟨x, h1, h2⟩, h3⟩ := firstI_spec hj
        obtain ⟨z, hz, qz⟩ := qx.get h1
        have fl : ∀ {m y}, xds[m]? = some y → D.flat y = true := fun hy => List.all_eq_true.mp hb.2 _ (List.mem_of_getElem? hy)
        refine mt_removeF pins s σ H _ _ v us Q I rx rs ⟨a, xv, _, z, j, rfl, rfl, hh, flat_V q hb.1, flat_Vs qx hb.2, hz, by rw [eqV_D qz q (fl h1) hb.1]; exact h2, fun m z' hm hz' => ?_, k .non _ .non (qx.eraseIdx j)⟩
        obtain ⟨y', hy', qy'⟩ := qx.get' hz'
        rw [eqV_D qy' q (fl hy') hb.1]
        exact h3 m y' hm hy'
    · cases e
  · cases e
/-! ### index -/
def gIndex : D → List D → Option W
  | .lst xs, [d] => if d.flat && xs.all D.flat then (firstI d xs).map fun (j : Nat) => .v (.int j) else none
  | _, _ => none
theorem index_ok : MtR X "list.index" (rMG X.K gIndex) := by
  intro pins s σ H x xs v us Q I rx rs h
  obtain ⟨F, R, σ', env, d, ds, w, r, va, vw, e, k⟩ := h
  unfold gIndex at e
  split at e
  · split at e
    · rename_i hb
      rw [Bool.and_eq_true] at hb
      obtain ⟨j, hj, e⟩ := Option.map_eq_some_iff.mp e
      obtain ⟨a, xv, rfl, hh, qx⟩ := va
      cases vw with
      | cons vb t =>
        cases t
        have qx := RepFs.mono r.fH qx
        have q := vb.rep r.fH
        obtain ⟨⟨x, h1, h2⟩, h3⟩ := firstI_spec hj
        obtain ⟨z, hz, qz⟩ := qx.get h1
        have fl : ∀ {m y}, _ → D.flat y = true := fun {m y} (hy : _[m]? = some y) => List.all_eq_true.mp hb.2 _ (List.mem_of_getElem? hy)
        refine mt_index pins s σ H _ _ v us Q I rx rs ⟨a, xv, _, j, z, rfl, rfl, SqL.of hh, flat_V q hb.1, flat_Vs qx hb.2, hz, by rw [eqV_D qz q (fl h1) hb.1]; exact h2, fun m z' hm hz' => ?_, scal_int r (congrArg some e) k⟩
        obtain ⟨y', hy', qy'⟩ := qx.get' hz'
        rw [eqV_D qy' q (fl hy') hb.1]
        exact h3 m y' hm hy'
    · cases e
  · cases e
end
end PD

set_option Elab.async false
set_option linter.all false
set_option maxRecDepth 100000
/-! P15: constants of the module; two and three targets at once; unpacking; xs[::-1]. -/
namespace PD
open PySem PySem.Spec L2
open PyProof.Rows hiding St

section
variable {K : PySem.W.Frag} {F F' R H H' : Hp} {σ : L2.St} {env env' : Env} {v : V} {w : W} {a : Addr} {o : Opd} {d : D} {P : List Nat}
variable {X : Cx} {e : Expr} {es : List Expr} {pos : Pos}
/-! ### a module's constants -/
theorem mg_int {mg : Str → Option Value} {h : Heap} {x : Str} {i : Int} (KX : K.In h) (G : h.Ns mainGlobals mg) (c : (He.Fa.int x i).ok K = true) : ∃ t, mg x = some (.int i t) := by
  have c : (match PySem.W.nsIn K mainGlobals x with | some (some (.int j _)) => decide (j = i) | _ => false) = true := c
  split at c
  · rename_i j t hj
    have := of_decide_eq_true c
    subst this
    exact ⟨t, PySem.W.mg_of KX G hj⟩
  · cases c
theorem mg_str {mg : Str → Option Value} {h : Heap} {x z : Str} (KX : K.In h) (G : h.Ns mainGlobals mg) (c : (He.Fa.str x z).ok K = true) : ∃ t, mg x = some (.str z t) := by
  have c : (match PySem.W.nsIn K mainGlobals x with | some (some (.str y _)) => decide (y = z) | _ => false) = true := c
  split at c
  · rename_i j t hj
    have := of_decide_eq_true c
    subst this
    exact ⟨t, PySem.W.mg_of KX G hj⟩
  · cases c
theorem pe_gint {x : Str} {i : Int} (hm : ∃ t, X.mg x = some (.int i t)) (hg : Gl X x) (hd : (x == ("__debug__" : Str)) = false) : PE X (.Name x pos) (tOf X.K (cConst (.int i))) := by
  obtain ⟨t, hm⟩ := hm
  exact pe_constD (pe_glob hg hm (v := .int i) ⟨t, rfl⟩ hd) fun F => .int _
theorem pe_gstr {x : Str} {z : List Nat} (hm : ∃ t, X.mg x = some (.str ⟨z.toArray⟩ t)) (hz : okS z) (hg : Gl X x) (hd : (x == ("__debug__" : Str)) = false) : PE X (.Name x pos) (tOf X.K (cConst (.str z))) := by
  obtain ⟨t, hm⟩ := hm
  exact pe_constD (pe_glob hg hm (v := .str ⟨z.toArray⟩) ⟨t, rfl⟩ hd) fun F => .str _ hz

/-! ### two targets, three targets -/
/-- the k-th operand, if it is a slot: its object frozen -/
def fz1 (k : Nat) (p : List Opd × Env) : Option (List Opd × Env) := match p.1[k]? with
  | some (.ref i) => (gt p.2 i).map fun w => (p.1.set k (.val (.v w.d)), p.2.set i (some (.v w.d)))
  | some (.val _) => some p
  | none => none
theorem RepOs.at_ {k : Nat} {o : Opd} {vs : List V} {os : List Opd} (q : RepOs K F R H σ env vs os) (h : os[k]? = some o) : ∃ v, vs[k]? = some v ∧ RepO K F R H σ env v o := by
  induction q generalizing k with
  | nil => simp at h
  | cons q n t ih =>
    cases k with
    | zero => cases h; exact ⟨_, rfl, q⟩
    | succ k =>
      obtain ⟨v, h1, h2⟩ := ih (k := k) (by simpa using h)
      exact ⟨v, by simpa using h1, h2⟩
theorem ownL_setv {b : Addr} {vs : List V} : ∀ {os : List Opd} {k : Nat}, b ∈ ownL vs (os.set k (.val (.v d))) → b ∈ ownL vs os := by
  induction vs with
  | nil => intro os k h; unfold ownL at h; cases h
  | cons v vs ih =>
    intro os k h
    cases os with
    | nil => simpa using h
    | cons o os =>
      cases k with
      | zero =>
        have h : b ∈ ownL (v :: vs) (.val (.v d) :: os) := h
        unfold ownL at h ⊢
        have e : oO (.val (.v d)) v = none := rfl
        rw [e] at h
        simp only at h
        split
        · exact List.mem_cons_of_mem _ h
        · exact h
      | succ k =>
        have h : b ∈ ownL (v :: vs) (o :: os.set k (.val (.v d))) := h
        unfold ownL at h ⊢
        split at h
        · rcases List.mem_cons.mp h with rfl | h
          · exact List.mem_cons_self
          · exact List.mem_cons_of_mem _ (ih h)
        · exact ih h
theorem RepOs.setv {k : Nat} {vs : List V} {os : List Opd} (q : RepOs K F R H σ env vs os) (h : vs[k]? = some v) (r : RepF K F v d) : RepOs K F R H σ env vs (os.set k (.val (.v d))) := by
  induction q generalizing k with
  | nil => simp at h
  | cons q n t ih =>
    cases k with
    | zero =>
      cases h
      exact .cons (show Tm K F R H σ env v (.v d) from Tm.frozen r) (fun a h => nomatch (show (none : Option Addr) = some a from h)) t
    | succ k => exact .cons q (fun a e hm => n a e (ownL_setv hm)) (ih (by simpa using h))
theorem fz1_ok {k : Nat} {vs : List V} {os os' : List Opd} (r : Rp K F R H σ env) (q : RepOs K F R H σ env vs os) (e : fz1 k (os, env) = some (os', env')) : ∃ F', Same F F' ∧ Rp K F' R H σ env' ∧ RepOs K F' R H σ env' vs os' := by
  unfold fz1 at e
  simp only at e
  split at e
  · rename_i i hi
    obtain ⟨w, h1, e⟩ := Option.map_eq_some_iff.mp e
    cases e
    obtain ⟨v, h2, h3⟩ := q.at_ hi
    obtain ⟨F', s', r', q', k'⟩ := frz_ok (o := .ref i) (d := w.d) (env' := env.set i (some (.v w.d))) r h3 (by show (gt env i).map _ = _; rw [h1]; rfl)
    exact ⟨F', s', r', (k' vs os (fun a z => nomatch (show (none : Option Addr) = some a from z)) q).setv h2 q'⟩
  · cases e
    exact ⟨F, Same.refl F, r, q⟩
  · cases e
def fzN : Nat → List Opd × Env → Option (List Opd × Env)
  | 0, p => some p
  | k + 1, p => (fz1 k p).bind (fzN k)
theorem fzN_ok : ∀ {k : Nat} {F : Hp} {env env' : Env} {vs : List V} {os os' : List Opd}, Rp K F R H σ env → RepOs K F R H σ env vs os → fzN k (os, env) = some (os', env') → ∃ F', Same F F' ∧ Rp K F' R H σ env' ∧ RepOs K F' R H σ env' vs os'
  | 0, F, env, env', vs, os, os', r, q, e => by cases e; exact ⟨F, Same.refl F, r, q⟩
  | k + 1, F, env, env', vs, os, os', r, q, e => by
    obtain ⟨⟨os1, e1⟩, h1, e⟩ := Option.bind_eq_some_iff.mp e
    obtain ⟨F1, s1, r1, q1⟩ := fz1_ok r q h1
    obtain ⟨F2, s2, r2, q2⟩ := fzN_ok r1 q1 e
    exact ⟨F2, s1.trans s2, r2, q2⟩
def putAll : List Nat → List Opd → Env → Option Env
  | [], [], env => some env
  | j :: js, .val w :: os, env => putAll js os (env.set j (some w))
  | _, _, _ => none
def setAll : List Nat → List V → L2.St → L2.St
  | j :: js, v :: vs, σ => setAll js vs (σ.set j (some v))
  | _, _, σ => σ
theorem RepOs.put {j : Nat} : ∀ {vs : List V} {os : List Opd}, Tm K F R H σ env v w → (∀ a, oA w v = some a → a ∉ ownL vs os) → os.all (fun o => match o with | .val _ => true | _ => false) = true → RepOs K F R H σ env vs os → RepOs K F R H (σ.set j (some v)) (env.set j (some w)) vs os
  | _, _, _, _, _, .nil => .nil
  | x :: vs, o :: os, t0, n0, hv, .cons q n t => by
    rw [List.all_cons, Bool.and_eq_true] at hv
    have n1 : ∀ a, oA w v = some a → a ∉ ownL vs os := fun a e hm => n0 a e (by unfold ownL; split; exact List.mem_cons_of_mem _ hm; exact hm)
    refine .cons ?_ n (RepOs.put t0 n1 hv.2 t)
    cases o with
    | ref i => cases hv.1
    | val u =>
      have q : Tm K F R H σ env x u := q
      refine (⟨q.rep, fun a e => ⟨(q.own a e).1, (q.own a e).2.1, fun i z => ?_⟩⟩ : Tm K F R H _ _ x u)
      rcases Ow.of_put z with ⟨_, z⟩ | ⟨_, z⟩
      · exact n0 a z (by unfold ownL; rw [show oO (.val u) x = some a from e]; exact List.mem_cons_self)
      · exact (q.own a e).2.2 i z
theorem putAll_val : ∀ {js : List Nat} {os : List Opd} {env env' : Env}, putAll js os env = some env' → os.all (fun o => match o with | .val _ => true | _ => false) = true
  | [], [], _, _, _ => rfl
  | j :: js, .val w :: os, env, env', h => by
    rw [List.all_cons]
    exact putAll_val (js := js) (os := os) h
  | [], _ :: _, _, _, h => by cases h
  | _ :: _, [], _, _, h => by cases h
  | _ :: _, .ref _ :: _, _, _, h => by cases h
theorem putAll_ok : ∀ {js : List Nat} {vs : List V} {os : List Opd} {σ : L2.St} {env env' : Env}, Rp K F R H σ env → RepOs K F R H σ env vs os → putAll js os env = some env' → Rp K F R H (setAll js vs σ) env'
  | [], vs, [], σ, env, env', r, q, e => by
    cases q
    cases e
    exact r
  | j :: js, _, .val w :: os, σ, env, env', r, .cons q n t, e => by
    have hv := putAll_val (js := js) (os := os) (show putAll js os (env.set j (some w)) = some env' from e)
    have q : Tm K F R H σ env _ w := q
    exact putAll_ok (js := js) (r.put q) (t.put q n hv) e
  | [], _, _ :: _, _, _, _, _, _, h => by cases h
  | _ :: _, _, [], _, _, _, _, _, h => by cases h
  | _ :: _, _, .ref _ :: _, _, _, _, _, _, h => by cases h
def sPar (js : List Nat) (g : AV) : SV := fun env => (g env).bind fun p => (fzN js.length p).bind fun q => (putAll js q.1 q.2).map fun env' => (.nx, env')
theorem sPar_imp {js : List Nat} {g : AV} {D : Ends} (h : tsOf K P (sPar js g) D σ H) (hP : ∀ j ∈ js, j ∉ P) : taOf K g σ H fun vs H1 => vs.length = js.length ∧ D.nx (setAll js vs σ) H1 := by
  obtain ⟨F, R, env, fl, env', r, h, k⟩ := h
  unfold sPar at h
  obtain ⟨⟨os, e1⟩, h1, h⟩ := Option.bind_eq_some_iff.mp h
  obtain ⟨⟨os2, e2⟩, h2, h⟩ := Option.bind_eq_some_iff.mp h
  obtain ⟨e3, h3, h⟩ := Option.map_eq_some_iff.mp h
  cases h
  refine ⟨F, R, env, os, e1, r, h1, fun vs H' F' s' r' q' => ?_⟩
  obtain ⟨F2, s2, r2, q2⟩ := fzN_ok r' q' h2
  have len : ∀ {js : List Nat} {os : List Opd} {env env' : Env}, putAll js os env = some env' → os.length = js.length := by
    intro js
    induction js with
    | nil => intro os env env' h; cases os with
      | nil => rfl
      | cons _ _ => cases h
    | cons j js ih => intro os env env' h; cases os with
      | nil => cases h
      | cons o os => cases o with
        | ref _ => cases h
        | val w => exact congrArg Nat.succ (ih (os := os) h)
  have setO : ∀ {js : List Nat} {vs : List V} {σ : L2.St} {j : Nat}, j ∉ js → (setAll js vs σ)[j]? = σ[j]? := by
    intro js
    induction js with
    | nil => intro vs σ j _; cases vs <;> rfl
    | cons i js ih => intro vs σ j hj; cases vs with
      | nil => rfl
      | cons v vs =>
        simp only [List.mem_cons, not_or] at hj
        show (setAll js vs (σ.set i (some v)))[j]? = _
        rw [ih hj.2, set_other fun z => hj.1 z.symm]
  refine ⟨q2.length.trans (len h3), ?_⟩
  exact k (setAll js vs σ) H' F2 (s'.trans s2) (putAll_ok r2 q2 h3) fun j hj => setO fun z => hP j z hj
theorem psD_par {i j : Nat} {x y : Str} {a b : Expr} {g : AV} {px py pt : Pos} {kt k2 pt2} (hP : ∀ l ∈ [i, j], l ∉ P) (hc : X.calm = true) (hN : X.N.Nodup) (hi : X.N[i]? = some x) (hj : X.N[j]? = some y) (hij : i ≠ j)
    (hx : X.env.scope.names.lookup x = some .local) (hy : X.env.scope.names.lookup y = some .local) (ha : PA X [a, b] (taOf X.K g))
    (hw : swappedStores [.Tuple [.Name x px, .Name y py] kt pt] (.Tuple [a, b] k2 pt2) X.env = pure (some [x, y]))
    (hs : swapsWithSole [.Tuple [.Name x px, .Name y py] kt pt] (.Tuple [a, b] k2 pt2) pos.line X.env = pure false) :
    PS X (.Assign [.Tuple [.Name x px, .Name y py] kt pt] (.Tuple [a, b] k2 pt2) pos) (tsOf X.K P (sPar [i, j] g)) :=
  (ps_par hc hN hi hj hij hx hy ha hw hs).imp fun D σ H h => by
    obtain ⟨F, R, env, os, env', r, e, k⟩ := sPar_imp h hP
    refine ⟨F, R, env, os, env', r, e, fun vs H' F' s' r' q' => ?_⟩
    obtain ⟨hl, h2⟩ := k vs H' F' s' r' q'
    match vs, hl with
    | [v, w], _ => exact ⟨v, w, rfl, h2⟩
theorem psD_par3 {i j l : Nat} {x y z : Str} {a b c : Expr} {g : AV} {px py pz pt : Pos} {kt k2 pt2} (hP : ∀ n ∈ [i, j, l], n ∉ P) (hc : X.calm = true) (hN : X.N.Nodup) (hi : X.N[i]? = some x) (hj : X.N[j]? = some y) (hl : X.N[l]? = some z) (hij : i ≠ j) (hil : i ≠ l) (hjl : j ≠ l)
    (hx : X.env.scope.names.lookup x = some .local) (hy : X.env.scope.names.lookup y = some .local) (hz : X.env.scope.names.lookup z = some .local) (ha : PA X [a, b, c] (taOf X.K g))
    (hw : swappedStores [.Tuple [.Name x px, .Name y py, .Name z pz] kt pt] (.Tuple [a, b, c] k2 pt2) X.env = pure (some [x, y, z]))
    (hs : swapsWithSole [.Tuple [.Name x px, .Name y py, .Name z pz] kt pt] (.Tuple [a, b, c] k2 pt2) pos.line X.env = pure false) :
    PS X (.Assign [.Tuple [.Name x px, .Name y py, .Name z pz] kt pt] (.Tuple [a, b, c] k2 pt2) pos) (tsOf X.K P (sPar [i, j, l] g)) :=
  (ps_par3 hc hN hi hj hl hij hil hjl hx hy hz ha hw hs).imp fun D σ H h => by
    obtain ⟨F, R, env, os, env', r, e, k⟩ := sPar_imp h hP
    refine ⟨F, R, env, os, env', r, e, fun vs H' F' s' r' q' => ?_⟩
    obtain ⟨hl, h2⟩ := k vs H' F' s' r' q'
    match vs, hl with
    | [u, v, w], _ => exact ⟨u, v, w, rfl, h2⟩
/-- a, b = e: the value frozen, then taken apart -/
def sUnp (g : GV) (f : EV) : SV := fun env => (f env).bind fun p => (p.1.frz p.2).bind fun q => (g q.1 q.2).map fun env' => (.nx, env')
theorem psD_unp {tg : Expr} {A : List Nat} {g : GV} {f : EV} (hP : ∀ j ∈ A, j ∉ P) (he : PE X e (tOf X.K f)) (hg : PG X tg (tgOf X.K A g)) (hs : swapsWithSole [tg] e pos.line X.env = pure false) (hw : swappedStores [tg] e X.env = pure none)
    (h1 : (assignEach [tg] X.env).map (·.2) = [assign tg X.env]) : PS X (.Assign [tg] e pos) (tsOf X.K P (sUnp g f)) := (ps_asg he hg hs hw h1).imp fun D σ H ⟨F, R, env, fl, env', r, h, k⟩ => by
  unfold sUnp at h
  obtain ⟨⟨o, e1⟩, h1, h⟩ := Option.bind_eq_some_iff.mp h
  obtain ⟨⟨d, e2⟩, h2, h⟩ := Option.bind_eq_some_iff.mp h
  obtain ⟨e3, h3, h⟩ := Option.map_eq_some_iff.mp h
  cases h
  refine ⟨F, R, env, o, e1, r, h1, fun v H' F' s' r' q' => ?_⟩
  obtain ⟨F2, s2, r2, q2, _⟩ := frz_ok r' q' h2
  exact ⟨F2, R, e2, d, _, r2, q2, h3, fun σ' r3 hA hl => k σ' H' F2 (s'.trans s2) r3 fun j hj => hA j fun z => hP j z hj⟩

/-! ### xs[::-1] -/
def cRev (f : EV) : EV := fun env => (f env).bind fun p => match p.1.rd p.2 with
  | some (.lst xs) => some (.val (.l xs.reverse), p.2)
  | _ => none
theorem pe_revD {f : EV} {k : Nat} {p1 p2 p3 : Pos} (he : PE X e (tOf X.K f)) : PE X (.Subscript e (.Slice none none (some (.UnaryOp .USub (.Constant (.int 1) k p1) p2)) p3) pos) (tOf X.K (cRev f)) := (pe_revL he).imp fun σ H Q ⟨F, R, env, o, env', r, h, k⟩ => by
  unfold cRev at h
  obtain ⟨⟨o1, e1⟩, h1, h⟩ := Option.bind_eq_some_iff.mp h
  simp only at h
  split at h
  · rename_i xs hx
    cases h
    refine ⟨F, R, env, o1, _, r, h1, fun x H1 F1 s1 r1 q1 => ?_⟩
    obtain ⟨a, vs, rfl, ha, qa⟩ := view_ok r1 q1 hx
    refine ⟨a, vs, rfl, SqL.of ha, fun p hp => ?_⟩
    obtain ⟨r2, t2⟩ := new_lst r1 qa.reverse hp
    exact k _ _ F1 s1 r2 t2
  · cases h
end
end PD

set_option Elab.async false
set_option linter.all false
set_option maxRecDepth 100000
/-! P16: the program's defs as a table; the rules in short. -/
namespace PD
open PySem PySem.Spec L2
open PyProof.Rows hiding St

/-! ### defs -/
structure Cal (P : Program) (w : World) (K : PySem.W.Frag) (mg : Str → Option Value) (base : Heap) (x : Str) (k n : Nat) (F : FnV) : Prop where
  ex : ∃ f fd ps, mg x = some (.ref f) ∧ PySem.W.keepIn K (.ref f) = true ∧ Binds K fd ps [] ∧ FnOk P w K mg base CX0 k f fd ps (spOf K n F)
  len : ∀ ws r, F ws = some r → ws.length = n
section
variable {X : Cx} {e : Expr} {es : List Expr} {pos : Pos} {P : List Nat}
theorem pe_callD {x : Str} {p : Pos} {j k n : Nat} {F : FnV} {g : AV} (m : Bool) (c : Cal X.prog X.w X.K X.mg X.base x k n F) (hr : Room j X.A) (hk : k ≤ j) (hg : Gl X x) (ha : PA X (e :: es) (taOf X.K g)) (hdb : (x == ("__debug__" : Str)) = false)
    (he : starEach (e :: es) X.env = (false, eval e X.env) :: starEach es X.env) (hpl : (backTo pos (starEach es X.env)).any (·.1) = false) : PE X (.Call (.Name x p) (e :: es) [] pos) (tOf X.K (cCall m F g)) := by
  obtain ⟨f, fd, ps, hm, kp, hb, ok⟩ := c.ex
  exact (pe_call ok (hr.mono hk) hg hm kp hb .nil pass0 ha hdb he hpl).imp fun _ _ _ h => cCall_imp c.len h
end
section
variable {Pr : Program} {w : World} {K : PySem.W.Frag} {mg : Str → Option Value} {base : Heap}
abbrev FnP (K : PySem.W.Frag) (x : Str) (st : Stmt) (f : Addr) (fd : FuncData) : Prop := FunD K x x (defArgs st) (defBody st) (defScope st) [] [] f fd
theorem fnD_of {x : Str} {st : Stmt} {N ps : List Str} {f : Addr} {fd : FuncData} {k n : Nat} {m : Bool} {S : SV} (F : FnP K x st f fd) (sc : FnScope N ps (defScope st)) (hps : ps.length = n)
    (body : ∀ (cdv : Value) (A : Around) (outer : List PySem.Env) (s : Shared) (H : Hp) (E : XK), Room k (A.deeper (envOfC x (defScope st) s.heap.objs.size f cdv)) →
      PSs (cxOf CX0 Pr w K mg base N x (defScope st) f cdv A outer s H E).nox (defBody st) (tsOf K (if m then [0] else []) S)) : FnOk Pr w K mg base CX0 (k + 1) f fd ps (spOf K n (runB N.length n m S)) := by
  subst hps
  exact F.ok sc (fun vs H Q E h => spOf.len h) fun cdv A outer s H vs Q E hr h => ⟨_, (body cdv A outer s H E hr).nox, body_imp h⟩
theorem cal_of {x : Str} {st : Stmt} {N ps : List Str} {f : Addr} {k n : Nat} {m : Bool} {S : SV} (hm : mg x = some (.ref f)) (hF : ∃ fd, FnP K x st f fd) (sc : FnScope N ps (defScope st)) (hps : ps.length = n)
    (hb : ∀ (kV doc pm : Value) (an : Option Addr) (cdv ct : Value) (us : List Value), us.length = ps.length → bindArgs (PySem.W.fnOf x x (defArgs st) (defBody st) (defScope st) .none kV doc pm an cdv ct) ⟨us, []⟩ = pure (ps.zip us))
    (body : ∀ (cdv : Value) (A : Around) (outer : List PySem.Env) (s : Shared) (H : Hp) (E : XK), Room k (A.deeper (envOfC x (defScope st) s.heap.objs.size f cdv)) →
      PSs (cxOf CX0 Pr w K mg base N x (defScope st) f cdv A outer s H E).nox (defBody st) (tsOf K (if m then [0] else []) S)) : Cal Pr w K mg base x (k + 1) n (runB N.length n m S) := by
  obtain ⟨fd, F⟩ := hF
  exact ⟨⟨f, fd, ps, hm, F.kp, F.bindsN hb, fnD_of F sc hps body⟩, runB_len⟩
theorem cal_none {x : Str} {st : Stmt} {ps : List Str} {f : Addr} {n k : Nat} (hm : mg x = some (.ref f)) (hF : ∃ fd, FnP K x st f fd)
    (hb : ∀ (kV doc pm : Value) (an : Option Addr) (cdv ct : Value) (us : List Value), us.length = ps.length → bindArgs (PySem.W.fnOf x x (defArgs st) (defBody st) (defScope st) .none kV doc pm an cdv ct) ⟨us, []⟩ = pure (ps.zip us)) : Cal Pr w K mg base x k n (fun _ => none) := by
  obtain ⟨fd, F⟩ := hF
  have no : ∀ {vs H Q E}, spOf K n (fun _ => none) vs H Q E → False := fun h => by
    obtain ⟨_, _, _, _, _, _, _, e, _⟩ := h
    cases e
  refine ⟨⟨f, fd, ps, hm, F.kp, F.bindsN hb, ⟨fun vs H Q E h => (no h).elim, fun A outer s H args us vs Q E _ _ _ _ h => (no h).elim⟩⟩, fun ws r h => by cases h⟩
end

/-! ### the law's end -/
theorem scr_rep {K : PySem.W.Frag} {H : Hp} : ∀ (ns : List Int), RepFs K H (ns.map V.int) (ns.map D.int)
  | [] => .nil
  | n :: ns => .cons (.int n) (scr_rep ns)
theorem law_ends {K : PySem.W.Frag} {H : Hp} {a : Addr} {ns : List Int} {f : FnV} {ws : List W} {E : XK} (hS : SqL K H a (ns.map V.int)) (e : f [.v (.scr (ns.map D.int))] = some (.v (.bl true), ws)) : spOf K 1 f [.ref a] H (fun v _ => v = .bl true) E := by
  refine ⟨H, fun _ => none, [.v (.scr (ns.map D.int))], _, ws, rfl, ⟨Same.refl H, fun _ _ h => (nomatch h), fun _ => .inr rfl, rfl, fun i w h => ?_, fun i j b h => ?_, fun i b h => ?_⟩, e, fun v H' F' s r t => ?_⟩
  · match i, h with
    | 0, h =>
      cases h
      exact ⟨_, rfl, .scr hS (scr_rep ns)⟩
  · exact absurd h fun h => isV_slot (vs := [.ref a]) (ws := [.v (.scr (ns.map D.int))]) rfl h
  · exact absurd h fun h => isV_slot (vs := [.ref a]) (ws := [.v (.scr (ns.map D.int))]) rfl h
  · exact RepF.bl_eq t.rep

/-! ### the rules in short -/
section
variable {X : Cx} {e : Expr} {es : List Expr} {pos : Pos} {P : List Nat}
theorem hu1 {A : Around} {j : Nat} (hr : Room j A) : A.units + 65 < cLine := by have := hr.un; omega
theorem hu0 {A : Around} {j : Nat} (hr : Room j A) : A.units + 64 < cLine := by have := hr.un; omega
theorem qn (i : Nat) {x : Str} (hN : X.N[i]? = some x := by rfl) (hv : Vis X.env.scope x := by first | exact Or.inl rfl | exact Or.inr (Or.inl rfl) | exact Or.inr (Or.inr rfl)) (hd : (x == ("__debug__" : Str)) = false := by decide)
    (hcd : (x == ("__classdict__" : Str)) = false := by decide) : PE X (.Name x pos) (tOf X.K (cVar i)) := pe_varD (pe_var hN hv hd hcd)
theorem qi {i : Int} {j : Nat} : PE X (.Constant (.int i) j pos) (tOf X.K (cConst (.int i))) := pe_constD pe_int fun _ => .int _
theorem qb {b : Bool} {j : Nat} : PE X (.Constant (.bool b) j pos) (tOf X.K (cConst (.bl b))) := pe_constD pe_bl fun _ => .bl _
theorem q0 {j : Nat} : PE X (.Constant .none j pos) (tOf X.K (cConst .non)) := pe_constD pe_non fun _ => .non
theorem qs {x : Str} {j : Nat} (z : List Nat) (hx : x = ⟨z.toArray⟩ := by decide +kernel) (hz : okS z := by decide +kernel) : PE X (.Constant (.str x) j pos) (tOf X.K (cConst (.str z))) := by
  subst hx
  exact pe_constD pe_str fun _ => .str _ hz
theorem ac {f : EV} {g : AV} (ha : PE X e (tOf X.K f)) (hr : PA X es (taOf X.K g)) (hs : starEach (e :: es) X.env = (false, eval e X.env) :: starEach es X.env := by rfl) : PA X (e :: es) (taOf X.K (argsC f g)) := pad_cons ha hr hs
theorem astar {f : EV} {g : AV} {p : Pos} (ha : PE X e (tOf X.K f)) (hr : PA X es (taOf X.K g)) (hs : starEach (.Starred e p :: es) X.env = (true, eval e X.env) :: starEach es X.env := by rfl) : PA X (.Starred e p :: es) (taOf X.K (argsS f g)) := pad_star ha hr hs
theorem qcall {x : Str} {p : Pos} {j k n : Nat} {F : FnV} {g : AV} (m : Bool) (c : Cal X.prog X.w X.K X.mg X.base x k n F) (hr : Room j X.A) (ha : PA X (e :: es) (taOf X.K g)) (hk : k ≤ j := by omega) (hg : Gl X x := by rfl) (hdb : (x == ("__debug__" : Str)) = false := by decide)
    (he : starEach (e :: es) X.env = (false, eval e X.env) :: starEach es X.env := by rfl) (hpl : (backTo pos (starEach es X.env)).any (·.1) = false := by rfl) : PE X (.Call (.Name x p) (e :: es) [] pos) (tOf X.K (cCall m F g)) := pe_callD m c hr hk hg ha hdb he hpl
theorem qbf {x : Str} {p : Pos} {id : String} {g : List D → Option W} {ga : AV} (hc : CallR X (.builtin id) (rCG X.K g)) (hm : X.mg x = none) (ha : PA X (e :: es) (taOf X.K ga)) (hg : Gl X x := by rfl) (hv : bootBuiltins x = some (.builtin id) := by decide +kernel) (hn : x ≠ "__name__" := by decide) (hdb : (x == ("__debug__" : Str)) = false := by decide)
    (he : starEach (e :: es) X.env = (false, eval e X.env) :: starEach es X.env := by rfl) (hpl : (backTo pos (starEach es X.env)).any (·.1) = false := by rfl) : PE X (.Call (.Name x p) (e :: es) [] pos) (tOf X.K (cB g ga)) := pe_bfun hc hg hm hv ha hn hdb he hpl
theorem qbt {x : Str} {p : Pos} {T : String} {g : List D → Option W} {ga : AV} (hc : CallR X (.type T) (rCG X.K g)) (hm : X.mg x = none) (ha : PA X (e :: es) (taOf X.K ga)) (hg : Gl X x := by rfl) (hv : bootBuiltins x = some (.type T) := by decide +kernel) (hn : x ≠ "__name__" := by decide) (hdb : (x == ("__debug__" : Str)) = false := by decide)
    (he : starEach (e :: es) X.env = (false, eval e X.env) :: starEach es X.env := by rfl) (hpl : (backTo pos (starEach es X.env)).any (·.1) = false := by rfl) : PE X (.Call (.Name x p) (e :: es) [] pos) (tOf X.K (cB g ga)) := pe_bty hc hg hm hv ha hn hdb he hpl
theorem qis {x : Expr} (t : String) {f : EV} {p p2 pos : Pos} (hm : X.mg "isinstance" = none) (hm2 : X.mg t = none) (hf : PE X x (tOf X.K f)) (ht : t ∈ knownT := by decide) (hg : Gl X "isinstance" := by rfl) (hg2 : Gl X t := by rfl) (hv2 : bootBuiltins t = some (.type t) := by decide +kernel)
    (he : starEach [x, .Name t p2] X.env = (false, eval x X.env) :: starEach [.Name t p2] X.env := by rfl) (he2 : starEach [.Name t p2] X.env = (false, eval (.Name t p2) X.env) :: starEach [] X.env := by rfl) (hpl : (backTo pos (starEach [.Name t p2] X.env)).any (·.1) = false := by rfl)
    (hn : (t : Str) ≠ "__name__" := by decide) (hd : ((t : Str) == ("__debug__" : Str)) = false := by decide) :
    PE X (.Call (.Name "isinstance" p) [x, .Name t p2] [] pos) (tOf X.K (cIs t f)) := pe_isD ht hg hm hg2 hm2 hv2 hf he he2 hpl hn hd
theorem qis2 {x : Expr} (t t' : String) {f : EV} {p p2 p3 p4 pos : Pos} {k1 : Nat} (hm : X.mg "isinstance" = none) (hm2 : X.mg t = none) (hm3 : X.mg t' = none) (hf : PE X x (tOf X.K f)) (ht : t ∈ knownT := by decide) (ht' : t' ∈ knownT := by decide) (hg : Gl X "isinstance" := by rfl) (hg2 : Gl X t := by rfl) (hv2 : bootBuiltins t = some (.type t) := by decide +kernel)
    (hg3 : Gl X t' := by rfl) (hv3 : bootBuiltins t' = some (.type t') := by decide +kernel)
    (he : starEach [x, .Tuple [.Name t p2, .Name t' p3] k1 p4] X.env = (false, eval x X.env) :: starEach [.Tuple [.Name t p2, .Name t' p3] k1 p4] X.env := by rfl)
    (he2 : starEach [.Tuple [.Name t p2, .Name t' p3] k1 p4] X.env = (false, eval (.Tuple [.Name t p2, .Name t' p3] k1 p4) X.env) :: starEach [] X.env := by rfl)
    (he3 : starEach [.Name t p2, .Name t' p3] X.env = (false, eval (.Name t p2) X.env) :: starEach [.Name t' p3] X.env := by rfl) (he4 : starEach [.Name t' p3] X.env = (false, eval (.Name t' p3) X.env) :: starEach [] X.env := by rfl)
    (hpl : (backTo pos (starEach [.Tuple [.Name t p2, .Name t' p3] k1 p4] X.env)).any (·.1) = false := by rfl)
    (hn : (t : Str) ≠ "__name__" := by decide) (hd : ((t : Str) == ("__debug__" : Str)) = false := by decide) (hn' : (t' : Str) ≠ "__name__" := by decide) (hd' : ((t' : Str) == ("__debug__" : Str)) = false := by decide) :
    PE X (.Call (.Name "isinstance" p) [x, .Tuple [.Name t p2, .Name t' p3] k1 p4] [] pos) (tOf X.K (cIs2 t t' f)) := pe_is2D ht ht' hg hm hg2 hm2 hv2 hg3 hm3 hv3 hf he he2 he3 he4 hpl hn hd hn' hd'
theorem qm {T id : String} {name : Str} {apos : Pos} {oe : Expr} {g : D → List D → Option W} {fo : EV} {ga : AV} (hT : T = "str" ∨ T = "list" ∨ T = "dict") (pa : PlainAttrs T) (slot : Slot T name id) (hty : typeOf (.builtin id) = pure (.type "method_descriptor")) (hm : MtR X id (rMG X.K g)) (ho : PE X oe (tOf X.K fo)) (ha : PA X (e :: es) (taOf X.K ga))
    (hbase : attributeBase oe name X.env (eval oe X.env) = eval oe X.env := by rfl)
    (hfew : ((backTo pos (starEach (e :: es) X.env)).all (fun x => !x.1) && (backToKw pos (keywordEach [] X.env)).all (fun x => x.1.isSome)
      && decide ((e :: es).length + ([] : List Keyword).length + (if ([] : List Keyword).isEmpty then 0 else 1) < 30)) = true := by rfl)
    (hline : (apos.endLine == pos.line) = true := by rfl) (hs : starEach (e :: es) X.env = (false, eval e X.env) :: starEach es X.env := by rfl) (hplain : (backTo pos (starEach es X.env)).any (·.1) = false := by rfl) :
    PE X (.Call (.Attribute oe name apos) (e :: es) [] pos) (tOf X.K (cM T g fo ga)) := pe_mD hT pa slot hty hm ho ha hbase hfew hline hs hplain
theorem qmut {id : String} {name : Str} {apos : Pos} {oe : Expr} {g : MV} {fo : EV} {ga : AV} (slot : Slot "list" name id) (hty : typeOf (.builtin id) = pure (.type "method_descriptor")) (hm : MtR X id (rMut X.K g)) (ho : PE X oe (tOf X.K fo)) (ha : PA X (e :: es) (taOf X.K ga))
    (hbase : attributeBase oe name X.env (eval oe X.env) = eval oe X.env := by rfl)
    (hfew : ((backTo pos (starEach (e :: es) X.env)).all (fun x => !x.1) && (backToKw pos (keywordEach [] X.env)).all (fun x => x.1.isSome)
      && decide ((e :: es).length + ([] : List Keyword).length + (if ([] : List Keyword).isEmpty then 0 else 1) < 30)) = true := by rfl)
    (hline : (apos.endLine == pos.line) = true := by rfl) (hs : starEach (e :: es) X.env = (false, eval e X.env) :: starEach es X.env := by rfl) (hplain : (backTo pos (starEach es X.env)).any (·.1) = false := by rfl) :
    PE X (.Call (.Attribute oe name apos) (e :: es) [] pos) (tOf X.K (cMut g fo ga)) := pe_mutD slot hty hm ho ha hbase hfew hline hs hplain
theorem qmut0 {id : String} {name : Str} {apos : Pos} {oe : Expr} {g : MV} {fo : EV} (slot : Slot "list" name id) (hty : typeOf (.builtin id) = pure (.type "method_descriptor")) (hm : MtR X id (rMut X.K g)) (ho : PE X oe (tOf X.K fo))
    (hbase : attributeBase oe name X.env (eval oe X.env) = eval oe X.env := by rfl) (hline : (apos.endLine == pos.line) = true := by rfl) :
    PE X (.Call (.Attribute oe name apos) [] [] pos) (tOf X.K (cMut g fo argsN)) := pe_mut0D slot hty hm ho hbase hline
theorem qcmp {a b : Expr} {fa fb : EV} {op : CmpOp} {g : D → D → Option W} (ho : OpR X (compareOp op) (rG X.K g)) (ha : PE X a (tOf X.K fa)) (hb : PE X b (tOf X.K fb)) (hm : behindInMarks op b = false := by first | exact nobehind _ (by decide) (by decide) | rfl) : PE X (.Compare a [op] [b] pos) (tOf X.K (cBin g fa fb)) := pe_cmpD ho ha hb hm
theorem qtcmp {a b : Expr} {fa fb : EV} {op : CmpOp} {g : D → D → Option W} (ho : OpR X (compareOp op) (rG X.K g)) (ha : PE X a (tOf X.K fa)) (hb : PE X b (tOf X.K fb)) (hm : behindInMarks op b = false := by first | exact nobehind _ (by decide) (by decide) | rfl) : PT X (.Compare a [op] [b] pos) (tbOf X.K (bVal (cBin g fa fb))) := pt_cmpD ho ha hb hm
theorem qchain {x y z : Expr} {fa fb fc : EV} {op op' : CmpOp} {g g' : D → D → Option W} (ho : OpR X (compareOp op) (rG X.K g)) (ho' : OpR X (compareOp op') (rG X.K g')) (ha : PE X x (tOf X.K fa)) (hb : PE X y (tOf X.K fb)) (hc : PE X z (tOf X.K fc))
    (hm : lastMarks [op, op'] [y, z] = false := by rfl) : PE X (.Compare x [op, op'] [y, z] pos) (tOf X.K (cChain g g' fa fb fc)) := pe_chainD ho ho' ha hb hc hm
theorem qtchain {x y z : Expr} {fa fb fc : EV} {op op' : CmpOp} {g g' : D → D → Option W} (ho : OpR X (compareOp op) (rG X.K g)) (ho' : OpR X (compareOp op') (rG X.K g')) (ha : PE X x (tOf X.K fa)) (hb : PE X y (tOf X.K fb)) (hc : PE X z (tOf X.K fc))
    (hm : lastMarks [op, op'] [y, z] = false := by rfl) : PT X (.Compare x [op, op'] [y, z] pos) (tbOf X.K (bVal (cChain g g' fa fb fc))) := pt_chainD ho ho' ha hb hc hm
theorem qtv {f : EV} (h : PE X e (tOf X.K f)) (he : ∀ whole, isTrue e X.env whole = (do let v ← whole; standAt e.pos; holding [v] (truthy v)) := by intro _; rfl) : PT X e (tbOf X.K (bVal f)) := pt_valD h he
theorem qix {a b : Expr} {fa fb : EV} {j : Nat} (hr : Room j X.A) (ha : PE X a (tOf X.K fa)) (hb : PE X b (tOf X.K fb)) (hs : PlainIx b := by exact fun _ _ => rfl) : PE X (.Subscript a b pos) (tOf X.K (cBin gIx fa fb)) := pe_ixD (hu1 hr) ha hb hs
theorem qgi {x : Str} {i : Int} (hm : ∃ t, X.mg x = some (.int i t)) (hg : Gl X x := by rfl) (hd : (x == ("__debug__" : Str)) = false := by decide) : PE X (.Name x pos) (tOf X.K (cConst (.int i))) := pe_gint hm hg hd
theorem qgstr {x : Str} {z : List Nat} (hm : ∃ t, X.mg x = some (.str ⟨z.toArray⟩ t)) (hz : okS z := by decide +kernel) (hg : Gl X x := by rfl) (hd : (x == ("__debug__" : Str)) = false := by decide) : PE X (.Name x pos) (tOf X.K (cConst (.str z))) := pe_gstr hm hz hg hd
/-! statements -/
theorem qset (i : Nat) {x : Str} {f : EV} {pos' : Pos} (he : PE X e (tOf X.K f)) (hN : X.N.Nodup) (hp : i ∉ P := by decide) (hi : X.N[i]? = some x := by rfl) (hx : Loc X.env.scope x := by first | exact Or.inl rfl | exact Or.inr rfl) (hs : swapsWith e (some (.Name x pos')) pos.line X.env = pure false := by rfl) (hf : X.fn x = true ∨ X.env.scope.names.lookup x = some .local := by first | exact .inl rfl | exact .inr rfl) :
    PS X (.Assign [.Name x pos'] e pos) (tsOf X.K P (sSet i f)) := psD_set hp (ps_set hN hi hx he hs hf)
theorem qput {o i : Expr} {fe fo fi : EV} {p2 : Pos} {j : Nat} (hr : Room j X.A) (he : PE X e (tOf X.K fe)) (ho : PE X o (tOf X.K fo)) (hi : PE X i (tOf X.K fi))
    (ha : ∀ v, assign (.Subscript o i p2) X.env v = (do
      let ov ← holding [v] (eval o X.env)
      let iv ← holding [v, ov] (eval i X.env)
      standAt p2
      holding [v, ov, iv] (setItem ov iv v)
      release [v, ov, iv] []) := by exact fun _ => rfl) (hs : swapsWithSole [.Subscript o i p2] e pos.line X.env = pure false := by rfl) (hw : swappedStores [.Subscript o i p2] e X.env = pure none := by rfl)
    (h1 : (assignEach [.Subscript o i p2] X.env).map (·.2) = [assign (.Subscript o i p2) X.env] := by rfl) : PS X (.Assign [.Subscript o i p2] e pos) (tsOf X.K P (sPut fe fo fi)) := psD_put (hu1 hr) he ho hi ha hs hw h1
theorem qexpr {f : EV} (he : PE X e (tOf X.K f)) (hs : swapsWith e none pos.line X.env = pure false := by rfl) : PS X (.Expr e pos) (tsOf X.K P (sExpr f)) := psD_expr he hs
theorem qgn (i : Nat) {x : Str} (hN : X.N.Nodup) (hi : X.N[i]? = some x := by rfl) (hx : Loc X.env.scope x := by first | exact Or.inl rfl | exact Or.inr rfl) (hf : X.fn x = true ∨ X.env.scope.names.lookup x = some .local := by first | exact .inl rfl | exact .inr rfl) : PG X (.Name x pos) (tgOf X.K [i] (gtName i)) := pg_nameD (pg_name hN hi hx hf)
theorem qgs {A B : List Nat} {g : GV} {h : List D → Env → Option Env} (h1 : PG X e (tgOf X.K A g)) (h2 : PGs X es (tgsOf X.K B h))
    (hs : (assignEach (e :: es) X.env).map (·.2) = assign e X.env :: (assignEach es X.env).map (·.2) := by rfl) : PGs X (e :: es) (tgsOf X.K (A ++ B) (gtCons g h)) := pgs_consD h1 h2 hs
theorem qgt {A : List Nat} {h : List D → Env → Option Env} {k0 : Nat} (n : Nat) (hh : PGs X es (tgsOf X.K A h)) (hc : X.calm = true := by rfl) (hn : (assignEach es X.env).length = n := by rfl) (hst : (assignEach es X.env).findIdx? (·.1) = none := by rfl) :
    PG X (.Tuple es k0 pos) (tgOf X.K A (gtTup n h)) := pg_tupD hc hh hn hst
theorem qfor {tg iter : Expr} {body : List Stmt} {A : List Nat} {it : IV} {g : GV} {f : SV} (hi : PI X tg iter (tiOf X.K it)) (hg : PG X tg (tgOf X.K A g)) (hb : PSs X body (tsOf X.K P f)) (hp : PassesOwn (model X.prog X.w) X.A X.env X.xe) (hP : ∀ j ∈ A, j ∉ P := by decide) (hc : X.calm = true := by rfl)
    (hs : ∀ x, foldedSetIterable iter X.env x = pure x := by exact fun _ => rfl) : PS X (.For tg iter body [] pos) (tsOf X.K P (sFor it g f)) := psD_for hP hp hc hi hg hb hs
theorem qr1 {tg x : Expr} {g : AV} {p : Pos} (hm : X.mg "range" = none) (ha : PA X [x] (taOf X.K g)) (hg : Gl X "range" := by rfl) (hs : starEach [x] X.env = [(false, eval x X.env)] := by rfl) : PI X tg (.Call (.Name "range" p) [x] [] pos) (tiOf X.K (iRange1 g)) := pi_range1D hg hm ha hs
theorem qr2 {tg x y : Expr} {g : AV} {p : Pos} (hm : X.mg "range" = none) (ha : PA X [x, y] (taOf X.K g)) (hg : Gl X "range" := by rfl) (hs : starEach [x, y] X.env = [(false, eval x X.env), (false, eval y X.env)] := by rfl) (hs2 : starEach [y] X.env = [(false, eval y X.env)] := by rfl) :
    PI X tg (.Call (.Name "range" p) [x, y] [] pos) (tiOf X.K (iRange2 g)) := pi_range2D hg hm ha hs hs2
theorem qpar (i j : Nat) {x y : Str} {a b : Expr} {g : AV} {px py pt : Pos} {kt k2 pt2} (ha : PA X [a, b] (taOf X.K g)) (hN : X.N.Nodup) (hP : ∀ l ∈ [i, j], l ∉ P := by decide) (hc : X.calm = true := by rfl) (hi : X.N[i]? = some x := by rfl) (hj : X.N[j]? = some y := by rfl) (hij : i ≠ j := by decide)
    (hx : X.env.scope.names.lookup x = some .local := by rfl) (hy : X.env.scope.names.lookup y = some .local := by rfl)
    (hw : swappedStores [.Tuple [.Name x px, .Name y py] kt pt] (.Tuple [a, b] k2 pt2) X.env = pure (some [x, y]) := by rfl)
    (hs : swapsWithSole [.Tuple [.Name x px, .Name y py] kt pt] (.Tuple [a, b] k2 pt2) pos.line X.env = pure false := by rfl) :
    PS X (.Assign [.Tuple [.Name x px, .Name y py] kt pt] (.Tuple [a, b] k2 pt2) pos) (tsOf X.K P (sPar [i, j] g)) := psD_par hP hc hN hi hj hij hx hy ha hw hs
theorem qpar3 (i j l : Nat) {x y z : Str} {a b c : Expr} {g : AV} {px py pz pt : Pos} {kt k2 pt2} (ha : PA X [a, b, c] (taOf X.K g)) (hN : X.N.Nodup) (hP : ∀ n ∈ [i, j, l], n ∉ P := by decide) (hc : X.calm = true := by rfl) (hi : X.N[i]? = some x := by rfl) (hj : X.N[j]? = some y := by rfl) (hl : X.N[l]? = some z := by rfl) (hij : i ≠ j := by decide) (hil : i ≠ l := by decide) (hjl : j ≠ l := by decide)
    (hx : X.env.scope.names.lookup x = some .local := by rfl) (hy : X.env.scope.names.lookup y = some .local := by rfl) (hz : X.env.scope.names.lookup z = some .local := by rfl)
    (hw : swappedStores [.Tuple [.Name x px, .Name y py, .Name z pz] kt pt] (.Tuple [a, b, c] k2 pt2) X.env = pure (some [x, y, z]) := by rfl)
    (hs : swapsWithSole [.Tuple [.Name x px, .Name y py, .Name z pz] kt pt] (.Tuple [a, b, c] k2 pt2) pos.line X.env = pure false := by rfl) :
    PS X (.Assign [.Tuple [.Name x px, .Name y py, .Name z pz] kt pt] (.Tuple [a, b, c] k2 pt2) pos) (tsOf X.K P (sPar [i, j, l] g)) := psD_par3 hP hc hN hi hj hl hij hil hjl hx hy hz ha hw hs
theorem qunp {tg : Expr} {A : List Nat} {g : GV} {f : EV} (he : PE X e (tOf X.K f)) (hg : PG X tg (tgOf X.K A g)) (hP : ∀ j ∈ A, j ∉ P := by decide) (hs : swapsWithSole [tg] e pos.line X.env = pure false := by rfl) (hw : swappedStores [tg] e X.env = pure none := by rfl)
    (h1 : (assignEach [tg] X.env).map (·.2) = [assign tg X.env] := by rfl) : PS X (.Assign [tg] e pos) (tsOf X.K P (sUnp g f)) := psD_unp hP he hg hs hw h1
theorem qlc {elt tg iter : Expr} {ifs : List Expr} {scope : Scope} (own : List (Str × Nat)) {A : List Nat} {it : IV} {g : GV} {c : BV} {fe : EV} (hN : X.N.Nodup) (hi : PI X tg iter (tiOf X.K it)) (ok : BlkOk X.N X.env.scope scope own)
    (hg : ∀ (s : Shared) (H : Hp) (C : Addr) (cl : List (Str × Addr)) (fp : List Addr), PG (X.blk s H scope (compEnvC scope cl C X.env) fp) tg (tgOf X.K A g)) (ht : ∀ (s : Shared) (H : Hp) (C : Addr) (cl : List (Str × Addr)) (fp : List Addr), PTs (X.blk s H scope (compEnvC scope cl C X.env) fp) ifs (tbOf X.K c))
    (he : ∀ (s : Shared) (H : Hp) (C : Addr) (cl : List (Str × Addr)) (fp : List Addr), PE (X.blk s H scope (compEnvC scope cl C X.env) fp) elt (tOf X.K fe)) (hc : X.calm = true := by rfl) (hA : ∀ j ∈ A, j ∈ own.map (·.2) := by decide) (hs : ∀ x, foldedSetIterable iter X.env x = pure x := by exact fun _ => rfl) :
    PE X (.ListComp elt [⟨tg, iter, ifs, 0⟩] scope pos) (tOf X.K (cLc it g c fe (own.map (·.2)))) := pe_lcD hc hN hi ok hA hg ht he hs
theorem qslc (i : Nat) {y : Str} {py : Pos} {elt tg iter : Expr} {ifs : List Expr} {scope : Scope} (own : List (Str × Nat)) {spos : Pos} {A : List Nat} {it : IV} {g : GV} {c : BV} {fe : EV} (hN : X.N.Nodup) (hi : PI X tg iter (tiOf X.K it)) (ok : BlkOk X.N X.env.scope scope own)
    (hg : ∀ (s : Shared) (H : Hp) (C : Addr) (cl : List (Str × Addr)) (fp : List Addr), PG (X.blk s H scope (compEnvC scope cl C X.env) fp) tg (tgOf X.K A g)) (ht : ∀ (s : Shared) (H : Hp) (C : Addr) (cl : List (Str × Addr)) (fp : List Addr), PTs (X.blk s H scope (compEnvC scope cl C X.env) fp) ifs (tbOf X.K c))
    (he : ∀ (s : Shared) (H : Hp) (C : Addr) (cl : List (Str × Addr)) (fp : List Addr), PE (X.blk s H scope (compEnvC scope cl C X.env) fp) elt (tOf X.K fe)) (hP : i ∉ P := by decide) (hc : X.calm = true := by rfl) (hy : X.N[i]? = some y := by rfl) (hyl : X.env.scope.names.lookup y = some .local := by rfl)
    (hsw : swapsWith (.ListComp elt [⟨tg, iter, ifs, 0⟩] scope pos) (some (.Name y py)) spos.line X.env = pure true := by rfl) (hA : ∀ j ∈ A, j ∈ own.map (·.2) := by decide) (hs : ∀ x, foldedSetIterable iter X.env x = pure x := by exact fun _ => rfl) :
    PS X (.Assign [.Name y py] (.ListComp elt [⟨tg, iter, ifs, 0⟩] scope pos) spos) (tsOf X.K P (sSet i (cLc it g c fe (own.map (·.2))))) := psD_setLc hP hc hN hy hyl hsw hi ok hA hg ht he hs
end
end PD

set_option Elab.async false
set_option linter.all false
set_option maxRecDepth 100000
/-! P17: evaluation from the left, by simp. -/
namespace PD
open PySem PySem.Spec L2
open PyProof.Rows hiding St

/-- what simp does not look into -/
inductive Tg {α : Sort u} (q : α) : Type where
  | mk
def tg {α : Sort u} (q : α) : Tg q := .mk
/-- x is there and fulfils Q -/
structure Ev {α : Type} {Q : α → Prop} (x : Option α) (t : Tg Q) : Prop where
  ex : ∃ a, x = some a ∧ Q a
theorem Ev.mono {α : Type} {x : Option α} {Q Q' : α → Prop} (h : Ev x (tg Q)) (k : ∀ a, Q a → Q' a) : Ev x (tg Q') := by
  obtain ⟨a, e, q⟩ := h.ex
  exact ⟨a, e, k a q⟩
theorem Ev.eqn {α : Type} {x : Option α} {v : α} (h : Ev x (tg fun r => r = v)) : x = some v := by
  obtain ⟨a, e, q⟩ := h.ex
  rw [e, q]
theorem Ev.of {α : Type} {x : Option α} {Q : α → Prop} {a : α} (e : x = some a) (q : Q a) : Ev x (tg Q) := ⟨a, e, q⟩
/-- a case not yet decided: neither side is looked at -/
def Cnd {A B : Prop} (c : Prop) (_ : Tg A) (_ : Tg B) : Prop := (c → A) ∧ (¬ c → B)
@[simp ↓] theorem cnd_true {A B : Prop} : Cnd True (tg A) (tg B) = A := propext ⟨fun h => h.1 trivial, fun h => ⟨fun _ => h, fun z => (z trivial).elim⟩⟩
@[simp ↓] theorem cnd_false {A B : Prop} : Cnd False (tg A) (tg B) = B := propext ⟨fun h => h.2 id, fun h => ⟨fun z => z.elim, fun _ => h⟩⟩
theorem cnd_pos {c A B : Prop} (h : c) : Cnd c (tg A) (tg B) = A := by rw [eq_true h, cnd_true]
theorem cnd_neg {c A B : Prop} (h : ¬ c) : Cnd c (tg A) (tg B) = B := by rw [eq_false h, cnd_false]
theorem cnd_if {c A B : Prop} [Decidable c] : (if c then A else B) = Cnd c (tg A) (tg B) := by
  by_cases h : c
  · rw [if_pos h, cnd_pos h]
  · rw [if_neg h, cnd_neg h]
/-- what must hold for going on -/
def Rq {A : Prop} (c : Prop) (_ : Tg A) : Prop := c ∧ A
@[simp ↓] theorem rq_true {A : Prop} : Rq True (tg A) = A := propext ⟨fun h => h.2, fun h => ⟨trivial, h⟩⟩
theorem rq_of {c A : Prop} (h : c) : Rq c (tg A) = A := by rw [eq_true h, rq_true]
theorem rq_if {c A : Prop} [Decidable c] : (if c then A else False) = Rq c (tg A) := by
  by_cases h : c
  · rw [if_pos h, rq_of h]
  · rw [if_neg h]; exact propext ⟨fun z => z.elim, fun z => h z.1⟩
section
variable {α β : Type} {Q : α → Prop}
@[simp, simp ↓] theorem ev_some {a : α} : Ev (some a) (tg Q) = Q a := by
  refine propext ⟨fun h => ?_, fun q => ⟨a, rfl, q⟩⟩
  obtain ⟨b, e, q⟩ := h.ex
  cases e
  exact q
@[simp ↓] theorem ev_none : Ev (none : Option α) (tg Q) = False := by
  refine propext ⟨fun h => ?_, fun z => z.elim⟩
  obtain ⟨b, e, _⟩ := h.ex
  cases e
@[simp ↓] theorem ev_bind {x : Option β} {f : β → Option α} : Ev (x.bind f) (tg Q) = Ev x (tg fun b => Ev (f b) (tg Q)) := by
  cases x with
  | none => exact ev_none.trans ev_none.symm
  | some b => exact (ev_some (Q := fun b => Ev (f b) (tg Q))).symm
@[simp ↓] theorem ev_map {x : Option β} {f : β → α} : Ev (x.map f) (tg Q) = Ev x (tg fun b => Q (f b)) := by
  cases x with
  | none => exact ev_none.trans ev_none.symm
  | some b => exact ev_some.trans (ev_some (Q := fun b => Q (f b))).symm
@[simp ↓] theorem ev_rq {c : Prop} [Decidable c] {x : Option α} : Ev (if c then x else none) (tg Q) = Rq c (tg (Ev x (tg Q))) := by
  rw [← rq_if]
  split
  · rfl
  · exact ev_none
theorem ev_ite {c : Prop} [Decidable c] {x y : Option α} : Ev (if c then x else y) (tg Q) = Cnd c (tg (Ev x (tg Q))) (tg (Ev y (tg Q))) := by
  rw [← cnd_if]; split <;> rfl
@[simp ↓] theorem ev_ite' {c : Prop} [Decidable c] {x y : Option α} : Ev (if c then x else y) (tg Q) = Cnd c (tg (Ev x (tg Q))) (tg (Ev y (tg Q))) := ev_ite
theorem ev_cg {x : Option α} {Q Q' : α → Prop} (h : ∀ a, Q a = Q' a) : Ev x (tg Q) = Ev x (tg Q') := by rw [funext h]
theorem rq_cg {c A A' : Prop} (h : A = A') : Rq c (tg A) = Rq c (tg A') := by rw [h]
theorem ev_rqs {c : Prop} [Decidable c] {a : α} : Ev (if c then some a else none) (tg Q) = Rq c (tg (Q a)) := ev_rq.trans (rq_cg ev_some)
theorem cnd_cg {c A A' B B' : Prop} (h : A = A') (h2 : B = B') : Cnd c (tg A) (tg B) = Cnd c (tg A') (tg B') := by rw [h, h2]
end
section
variable {env : Env} {f g h : EV} {b c : BV} {s t : SV} {a : AV} {i j : Nat} {w : W} {d : D} {Q : Opd × Env → Prop} {B : Bool × Env → Prop} {S : Fl × Env → Prop} {A : List Opd × Env → Prop} {Z : W → Prop} {Y : D → Prop} {E : Env → Prop}
@[simp ↓] theorem ev_gt0 {o : Option W} {l : Env} : Ev (gt (o :: l) 0) (tg Z) = Ev o (tg Z) := by first | exact ev_some | exact eq_of_heq HEq.rfl
@[simp ↓] theorem ev_gts {o : Option W} {l : Env} {n : Nat} : Ev (gt (o :: l) (n + 1)) (tg Z) = Ev (gt l n) (tg Z) := by first | exact ev_some | exact eq_of_heq HEq.rfl
@[simp] theorem gt_0 {o : Option W} {l : Env} : gt (o :: l) 0 = o := by first | exact ev_some | exact eq_of_heq HEq.rfl
@[simp] theorem gt_s {o : Option W} {l : Env} {n : Nat} : gt (o :: l) (n + 1) = gt l n := by first | exact ev_some | exact eq_of_heq HEq.rfl
@[simp ↓] theorem ev_rdv : Ev ((Opd.val w).rd env) (tg Y) = Y w.d := by first | exact ev_some | exact eq_of_heq HEq.rfl
@[simp ↓] theorem ev_rdr : Ev ((Opd.ref i).rd env) (tg Y) = Ev (gt env i) (tg fun w => Y w.d) := ev_map
@[simp ↓] theorem ev_frzv {P : D × Env → Prop} : Ev ((Opd.val w).frz env) (tg P) = P (w.d, env) := by first | exact ev_some | exact eq_of_heq HEq.rfl
@[simp ↓] theorem ev_frzr {P : D × Env → Prop} : Ev ((Opd.ref i).frz env) (tg P) = Ev (gt env i) (tg fun w => P (w.d, env.set i (some (.v w.d)))) := ev_map
@[simp ↓] theorem ev_takev {P : W × Env → Prop} : Ev ((Opd.val w).take env) (tg P) = P (w, env) := by first | exact ev_some | exact eq_of_heq HEq.rfl
@[simp ↓] theorem ev_taker {P : W × Env → Prop} : Ev ((Opd.ref i).take env) (tg P) = Ev (gt env i) (tg fun w => P (.v w.d, env.set i (some (.v w.d)))) := ev_map
@[simp ↓] theorem ev_frzs0 {P : List D × Env → Prop} : Ev (frzs [] env) (tg P) = P ([], env) := by first | exact ev_some | exact eq_of_heq HEq.rfl
@[simp ↓] theorem ev_frzs1 {o : Opd} {os : List Opd} {P : List D × Env → Prop} : Ev (frzs (o :: os) env) (tg P) = Ev (o.frz env) (tg fun p => Ev (frzs os p.2) (tg fun q => P (p.1 :: q.1, q.2))) := by
  show Ev ((o.frz env).bind fun p => (frzs os p.2).map fun q => (p.1 :: q.1, q.2)) (tg P) = _
  (repeat' first | exact rfl | exact ev_some | exact ev_none | refine cnd_cg ?_ ?_ | refine rq_cg ?_ | refine ev_cg fun _ => ?_ | rw [ev_bind] | rw [ev_map] | rw [ev_rq] | rw [ev_ite])
@[simp ↓] theorem ev_rds0 {P : List D → Prop} : Ev (rds [] env) (tg P) = P [] := by first | exact ev_some | exact eq_of_heq HEq.rfl
@[simp ↓] theorem ev_rds1 {o : Opd} {os : List Opd} {P : List D → Prop} : Ev (rds (o :: os) env) (tg P) = Ev (o.rd env) (tg fun d => Ev (rds os env) (tg fun ds => P (d :: ds))) := by
  show Ev ((o.rd env).bind fun d => (rds os env).map fun ds => d :: ds) (tg P) = _
  (repeat' first | exact rfl | exact ev_some | exact ev_none | refine cnd_cg ?_ ?_ | refine rq_cg ?_ | refine ev_cg fun _ => ?_ | rw [ev_bind] | rw [ev_map] | rw [ev_rq] | rw [ev_ite])
@[simp ↓] theorem ev_aw0 {P : List W × Env → Prop} : Ev (argsW [] env) (tg P) = P ([], env) := by first | exact ev_some | exact eq_of_heq HEq.rfl
@[simp ↓] theorem ev_aw1 {o : Opd} {os : List Opd} {P : List W × Env → Prop} : Ev (argsW (o :: os) env) (tg P) = Ev (o.arg env) (tg fun p => Ev (argsW os p.2) (tg fun q => P (p.1 :: q.1, q.2))) := by
  show Ev ((o.arg env).bind fun p => (argsW os p.2).map fun q => (p.1 :: q.1, q.2)) (tg P) = _
  (repeat' first | exact rfl | exact ev_some | exact ev_none | refine cnd_cg ?_ ?_ | refine rq_cg ?_ | refine ev_cg fun _ => ?_ | rw [ev_bind] | rw [ev_map] | rw [ev_rq] | rw [ev_ite])
@[simp ↓] theorem ev_argv {P : W × Env → Prop} : Ev ((Opd.val (.v d)).arg env) (tg P) = P (.v d, env) := by first | exact ev_some | exact eq_of_heq HEq.rfl
@[simp ↓] theorem ev_argt {ds : List D} {P : W × Env → Prop} : Ev ((Opd.val (.t ds)).arg env) (tg P) = P (.t ds, env) := by first | exact ev_some | exact eq_of_heq HEq.rfl
@[simp ↓] theorem ev_argl {ds : List D} {P : W × Env → Prop} : Ev ((Opd.val (.l ds)).arg env) (tg P) = P (.v (.lst ds), env) := by first | exact ev_some | exact eq_of_heq HEq.rfl
@[simp ↓] theorem ev_argk {ds : List (D × D)} {P : W × Env → Prop} : Ev ((Opd.val (.k ds)).arg env) (tg P) = P (.v (.dic ds), env) := by first | exact ev_some | exact eq_of_heq HEq.rfl
@[simp ↓] theorem ev_argr {P : W × Env → Prop} : Ev ((Opd.ref i).arg env) (tg P) = Ev (gt env i) (tg fun w => P (.v w.d, env.set i (some (.v w.d)))) := by
  show Ev ((gt env i).map _) (tg P) = _
  rw [ev_map]
@[simp ↓] theorem ev_var : Ev (cVar i env) (tg Q) = Ev (gt env i) (tg fun w => match w with
  | .v d => Q (.val (.v d), env)
  | .t d => Q (.val (.t d), env)
  | _ => Q (.ref i, env)) := by
  show Ev (match gt env i with
  | some (.v d) => some (.val (.v d), env)
  | some (.t d) => some (.val (.t d), env)
  | some _ => some (.ref i, env)
  | none => none) (tg Q) = _
  cases gt env i with
  | none => (first | rfl | exact ev_some | exact ev_none | exact ev_none.trans ev_none.symm | (rw [ev_some]; first | rfl | exact ev_some | (rw [ev_some]; done) | exact ev_none))
  | some w => cases w <;> (first | rfl | exact ev_some | exact ev_none | exact ev_none.trans ev_none.symm | (rw [ev_some]; first | rfl | exact ev_some | (rw [ev_some]; done) | exact ev_none))
@[simp ↓] theorem ev_const : Ev (cConst d env) (tg Q) = Q (.val (.v d), env) := by first | exact ev_some | exact eq_of_heq HEq.rfl
@[simp ↓] theorem ev_bin {G : D → D → Option W} : Ev (cBin G f g env) (tg Q) = Ev (f env) (tg fun p => Ev (g p.2) (tg fun q => Ev (p.1.rd q.2) (tg fun da => Ev (q.1.rd q.2) (tg fun db => Ev (G da db) (tg fun w => Q (.val w, q.2)))))) := by
  unfold cBin
  (repeat' first | exact rfl | exact ev_some | exact ev_none | refine cnd_cg ?_ ?_ | refine rq_cg ?_ | refine ev_cg fun _ => ?_ | rw [ev_bind] | rw [ev_map] | rw [ev_rq] | rw [ev_ite])
@[simp ↓] theorem ev_bval : Ev (bVal f env) (tg B) = Ev (f env) (tg fun p => Ev (p.1.rd p.2) (tg fun d => match d with | .bl b => B (b, p.2) | _ => False)) := by
  unfold bVal
  rw [ev_bind]
  refine ev_cg fun p => ?_
  cases p.1.rd p.2 with
  | none => (first | rfl | exact ev_some | exact ev_none | exact ev_none.trans ev_none.symm | (rw [ev_some]; first | rfl | exact ev_some | (rw [ev_some]; done) | exact ev_none))
  | some d => cases d <;> (first | rfl | exact ev_some | exact ev_none | exact ev_none.trans ev_none.symm | (rw [ev_some]; first | rfl | exact ev_some | (rw [ev_some]; done) | exact ev_none))
@[simp ↓] theorem ev_band : Ev (bAnd b c env) (tg B) = Ev (b env) (tg fun p => Cnd (p.1 = true) (tg (Ev (c p.2) (tg B))) (tg (B (false, p.2)))) := by
  unfold bAnd
  (repeat' first | exact rfl | exact ev_some | exact ev_none | refine cnd_cg ?_ ?_ | refine rq_cg ?_ | refine ev_cg fun _ => ?_ | rw [ev_bind] | rw [ev_map] | rw [ev_rq] | rw [ev_ite])
@[simp ↓] theorem ev_bor : Ev (bOr b c env) (tg B) = Ev (b env) (tg fun p => Cnd (p.1 = true) (tg (B (true, p.2))) (tg (Ev (c p.2) (tg B)))) := by
  unfold bOr
  (repeat' first | exact rfl | exact ev_some | exact ev_none | refine cnd_cg ?_ ?_ | refine rq_cg ?_ | refine ev_cg fun _ => ?_ | rw [ev_bind] | rw [ev_map] | rw [ev_rq] | rw [ev_ite])
@[simp ↓] theorem ev_bnot : Ev (bNot b env) (tg B) = Ev (b env) (tg fun p => B (!p.1, p.2)) := ev_map
@[simp ↓] theorem ev_byes : Ev (bYes env) (tg B) = B (true, env) := by first | exact ev_some | exact eq_of_heq HEq.rfl
@[simp ↓] theorem ev_cnot : Ev (cNot f env) (tg Q) = Ev (bVal f env) (tg fun p => Q (.val (.v (.bl (!p.1))), p.2)) := ev_map
@[simp ↓] theorem ev_cand : Ev (cAnd f g env) (tg Q) = Ev (bVal f env) (tg fun p => Cnd (p.1 = true) (tg (Ev (g p.2) (tg Q))) (tg (Q (.val (.v (.bl false)), p.2)))) := by
  unfold cAnd
  (repeat' first | exact rfl | exact ev_some | exact ev_none | refine cnd_cg ?_ ?_ | refine rq_cg ?_ | refine ev_cg fun _ => ?_ | rw [ev_bind] | rw [ev_map] | rw [ev_rq] | rw [ev_ite])
@[simp ↓] theorem ev_cor : Ev (cOr f g env) (tg Q) = Ev (bVal f env) (tg fun p => Cnd (p.1 = true) (tg (Q (.val (.v (.bl true)), p.2))) (tg (Ev (g p.2) (tg Q)))) := by
  unfold cOr
  (repeat' first | exact rfl | exact ev_some | exact ev_none | refine cnd_cg ?_ ?_ | refine rq_cg ?_ | refine ev_cg fun _ => ?_ | rw [ev_bind] | rw [ev_map] | rw [ev_rq] | rw [ev_ite])
@[simp ↓] theorem ev_if : Ev (cIf b f g env) (tg Q) = Ev (b env) (tg fun p => Cnd (p.1 = true) (tg (Ev (f p.2) (tg Q))) (tg (Ev (g p.2) (tg Q)))) := by
  unfold cIf
  (repeat' first | exact rfl | exact ev_some | exact ev_none | refine cnd_cg ?_ ?_ | refine rq_cg ?_ | refine ev_cg fun _ => ?_ | rw [ev_bind] | rw [ev_map] | rw [ev_rq] | rw [ev_ite])
@[simp ↓] theorem ev_neg : Ev (cNeg f env) (tg Q) = Ev (f env) (tg fun p => Ev (p.1.rd p.2) (tg fun d => match d with | .int i => Q (.val (.v (.int (-i))), p.2) | _ => False)) := by
  unfold cNeg
  rw [ev_bind]
  refine ev_cg fun p => ?_
  cases p.1.rd p.2 with
  | none => (first | rfl | exact ev_some | exact ev_none | exact ev_none.trans ev_none.symm | (rw [ev_some]; first | rfl | exact ev_some | (rw [ev_some]; done) | exact ev_none))
  | some d => cases d <;> (first | rfl | exact ev_some | exact ev_none | exact ev_none.trans ev_none.symm | (rw [ev_some]; first | rfl | exact ev_some | (rw [ev_some]; done) | exact ev_none))
@[simp ↓] theorem ev_rev : Ev (cRev f env) (tg Q) = Ev (f env) (tg fun p => Ev (p.1.rd p.2) (tg fun d => match d with | .lst xs => Q (.val (.l xs.reverse), p.2) | _ => False)) := by
  unfold cRev
  rw [ev_bind]
  refine ev_cg fun p => ?_
  cases p.1.rd p.2 with
  | none => (first | rfl | exact ev_some | exact ev_none | exact ev_none.trans ev_none.symm | (rw [ev_some]; first | rfl | exact ev_some | (rw [ev_some]; done) | exact ev_none))
  | some d => cases d <;> (first | rfl | exact ev_some | exact ev_none | exact ev_none.trans ev_none.symm | (rw [ev_some]; first | rfl | exact ev_some | (rw [ev_some]; done) | exact ev_none))
@[simp ↓] theorem ev_an : Ev (argsN env) (tg A) = A ([], env) := by first | exact ev_some | exact eq_of_heq HEq.rfl
@[simp ↓] theorem ev_ac : Ev (argsC f a env) (tg A) = Ev (f env) (tg fun p => Ev (a p.2) (tg fun q => A (p.1 :: q.1, q.2))) := by
  unfold argsC
  (repeat' first | exact rfl | exact ev_some | exact ev_none | refine cnd_cg ?_ ?_ | refine rq_cg ?_ | refine ev_cg fun _ => ?_ | rw [ev_bind] | rw [ev_map] | rw [ev_rq] | rw [ev_ite])
@[simp ↓] theorem ev_as : Ev (argsS f a env) (tg A) = Ev (f env) (tg fun p => Ev (p.1.rd p.2) (tg fun d => Ev d.els (tg fun ds => Ev (a p.2) (tg fun q => A (ds.map (fun d => Opd.val (.v d)) ++ q.1, q.2))))) := by
  unfold argsS
  (repeat' first | exact rfl | exact ev_some | exact ev_none | refine cnd_cg ?_ ?_ | refine rq_cg ?_ | refine ev_cg fun _ => ?_ | rw [ev_bind] | rw [ev_map] | rw [ev_rq] | rw [ev_ite])
@[simp ↓] theorem ev_lst : Ev (cLst a env) (tg Q) = Ev (a env) (tg fun p => Rq (p.1.length ≤ sizeLine) (tg (Ev (frzs p.1 p.2) (tg fun q => Q (.val (.l q.1), q.2))))) := by
  unfold cLst
  (repeat' first | exact rfl | exact ev_some | exact ev_none | refine cnd_cg ?_ ?_ | refine rq_cg ?_ | refine ev_cg fun _ => ?_ | rw [ev_bind] | rw [ev_map] | rw [ev_rq] | rw [ev_ite])
@[simp ↓] theorem ev_tup : Ev (cTup a env) (tg Q) = Ev (a env) (tg fun p => Rq (p.1.length ≤ sizeLine) (tg (Ev (frzs p.1 p.2) (tg fun q => Q (.val (.t q.1), q.2))))) := by
  unfold cTup
  (repeat' first | exact rfl | exact ev_some | exact ev_none | refine cnd_cg ?_ ?_ | refine rq_cg ?_ | refine ev_cg fun _ => ?_ | rw [ev_bind] | rw [ev_map] | rw [ev_rq] | rw [ev_ite])
@[simp ↓] theorem ev_callF {F : FnV} : Ev (cCall false F a env) (tg Q) = Ev (a env) (tg fun p => Ev (argsW p.1 p.2) (tg fun q => Ev (F q.1) (tg fun t => Q (.val t.1, q.2)))) := by
  unfold cCall
  (repeat' first | exact rfl | exact ev_some | exact ev_none | refine cnd_cg ?_ ?_ | refine rq_cg ?_ | refine ev_cg fun _ => ?_ | rw [ev_bind] | rw [ev_map] | rw [ev_rq] | rw [ev_ite])
@[simp ↓] theorem ev_callT {F : FnV} : Ev (cCall true F a env) (tg Q) = Ev (a env) (tg fun p => match p.1 with
    | .ref j :: os => Ev (argsW os p.2) (tg fun q => Ev (gt q.2 j) (tg fun w0 => Ev (F (w0 :: q.1)) (tg fun t => match t.2 with
      | w1 :: _ => Q (.val t.1, q.2.set j (some w1))
      | [] => False)))
    | _ => False) := by
  unfold cCall
  rw [ev_bind]
  refine ev_cg fun p => ?_
  obtain ⟨os, e⟩ := p
  match os with
  | [] => (first | rfl | exact ev_some | exact ev_none | exact ev_none.trans ev_none.symm | (rw [ev_some]; first | rfl | exact ev_some | (rw [ev_some]; done) | exact ev_none))
  | .val _ :: _ => (first | rfl | exact ev_some | exact ev_none | exact ev_none.trans ev_none.symm | (rw [ev_some]; first | rfl | exact ev_some | (rw [ev_some]; done) | exact ev_none))
  | .ref j :: os =>
    rw [ev_bind]
    refine ev_cg fun q => ?_; rw [ev_bind]; refine ev_cg fun w0 => ?_; rw [ev_bind]; refine ev_cg fun t => ?_
    obtain ⟨t1, t2⟩ := t
    cases t2 <;> (first | rfl | exact ev_some | exact ev_none | exact ev_none.trans ev_none.symm | (rw [ev_some]; first | rfl | exact ev_some | (rw [ev_some]; done) | exact ev_none))
@[simp ↓] theorem ev_cb {G : List D → Option W} : Ev (cB G a env) (tg Q) = Ev (a env) (tg fun p => Ev (rds p.1 p.2) (tg fun ds => Ev (G ds) (tg fun w => Q (.val w, p.2)))) := by
  unfold cB
  (repeat' first | exact rfl | exact ev_some | exact ev_none | refine cnd_cg ?_ ?_ | refine rq_cg ?_ | refine ev_cg fun _ => ?_ | rw [ev_bind] | rw [ev_map] | rw [ev_rq] | rw [ev_ite])
@[simp ↓] theorem ev_is {x : String} : Ev (cIs x f env) (tg Q) = Ev (f env) (tg fun p => Ev (p.1.rd p.2) (tg fun d => Rq (notScr d = true) (tg (Q (.val (.v (.bl (isTy d.ty x))), p.2))))) := by
  unfold cIs
  (repeat' first | exact rfl | exact ev_some | exact ev_none | refine cnd_cg ?_ ?_ | refine rq_cg ?_ | refine ev_cg fun _ => ?_ | rw [ev_bind] | rw [ev_map] | rw [ev_rq] | rw [ev_ite])
@[simp ↓] theorem ev_is2 {x y : String} : Ev (cIs2 x y f env) (tg Q) = Ev (f env) (tg fun p => Ev (p.1.rd p.2) (tg fun d => Rq (notScr d = true) (tg (Q (.val (.v (.bl (isTy d.ty x || isTy d.ty y))), p.2))))) := by
  unfold cIs2
  (repeat' first | exact rfl | exact ev_some | exact ev_none | refine cnd_cg ?_ ?_ | refine rq_cg ?_ | refine ev_cg fun _ => ?_ | rw [ev_bind] | rw [ev_map] | rw [ev_rq] | rw [ev_ite])
@[simp ↓] theorem ev_m {T : String} {G : D → List D → Option W} : Ev (cM T G f a env) (tg Q) = Ev (f env) (tg fun p => Ev (p.1.rd p.2) (tg fun d0 => Rq (d0.ty = T ∧ notScr d0 = true) (tg (Ev (a p.2) (tg fun q => Ev (p.1.rd q.2) (tg fun d => Ev (rds q.1 q.2) (tg fun ds => Ev (G d ds) (tg fun w => Q (.val w, q.2))))))))) := by
  unfold cM
  (repeat' first | exact rfl | exact ev_some | exact ev_none | refine cnd_cg ?_ ?_ | refine rq_cg ?_ | refine ev_cg fun _ => ?_ | rw [ev_bind] | rw [ev_map] | rw [ev_rq] | rw [ev_ite])
@[simp ↓] theorem ev_mut {G : MV} : Ev (cMut G f a env) (tg Q) = Ev (f env) (tg fun p => match p.1 with
  | .ref j => Ev (gt p.2 j) (tg fun w => match w with
    | .l _ => Ev (a p.2) (tg fun q => Ev (frzs q.1 q.2) (tg fun t => Ev (gt t.2 j) (tg fun w2 => match w2 with
      | .l xs => Ev (G xs t.1) (tg fun u => Q (.val (.v u.1), t.2.set j (some (.l u.2))))
      | _ => False)))
    | _ => False)
  | _ => False) := by
  unfold cMut
  rw [ev_bind]
  refine ev_cg fun p => ?_
  obtain ⟨o, e⟩ := p
  cases o with
  | val w => (first | rfl | exact ev_some | exact ev_none | exact ev_none.trans ev_none.symm | (rw [ev_some]; first | rfl | exact ev_some | (rw [ev_some]; done) | exact ev_none))
  | ref j =>
    simp only
    cases gt e j with
    | none => (first | rfl | exact ev_some | exact ev_none | exact ev_none.trans ev_none.symm | (rw [ev_some]; first | rfl | exact ev_some | (rw [ev_some]; done) | exact ev_none))
    | some w =>
      cases w with
      | l xs =>
        simp only [ev_some]
        rw [ev_bind]
        refine ev_cg fun q => ?_
        rw [ev_bind]
        refine ev_cg fun t => ?_
        cases gt t.2 j with
        | none => (first | rfl | exact ev_some | exact ev_none | exact ev_none.trans ev_none.symm | (rw [ev_some]; first | rfl | exact ev_some | (rw [ev_some]; done) | exact ev_none))
        | some w2 =>
          cases w2 with
          | l ys => simp only [ev_some]; rw [ev_map]
          | _ => (first | rfl | exact ev_some | exact ev_none | exact ev_none.trans ev_none.symm | (rw [ev_some]; first | rfl | exact ev_some | (rw [ev_some]; done) | exact ev_none))
      | _ => (first | rfl | exact ev_some | exact ev_none | exact ev_none.trans ev_none.symm | (rw [ev_some]; first | rfl | exact ev_some | (rw [ev_some]; done) | exact ev_none))
@[simp ↓] theorem ev_pno {P : Option Int × Env → Prop} : Ev (pNo env) (tg P) = P (none, env) := by first | exact ev_some | exact eq_of_heq HEq.rfl
@[simp ↓] theorem ev_pat {P : Option Int × Env → Prop} : Ev (pAt f env) (tg P) = Ev (f env) (tg fun p => Ev (p.1.rd p.2) (tg fun d => match d with | .int i => P (some i, p.2) | _ => False)) := by
  unfold pAt
  rw [ev_bind]
  refine ev_cg fun p => ?_
  cases p.1.rd p.2 with
  | none => (first | rfl | exact ev_some | exact ev_none | exact ev_none.trans ev_none.symm | (rw [ev_some]; first | rfl | exact ev_some | (rw [ev_some]; done) | exact ev_none))
  | some d => cases d <;> (first | rfl | exact ev_some | exact ev_none | exact ev_none.trans ev_none.symm | (rw [ev_some]; first | rfl | exact ev_some | (rw [ev_some]; done) | exact ev_none))
@[simp ↓] theorem ev_sl {l u : PV} : Ev (cSl f l u env) (tg Q) = Ev (f env) (tg fun p => Ev (l p.2) (tg fun q => Ev (u q.2) (tg fun t => Ev (p.1.rd t.2) (tg fun d => Ev (gSl d q.1 t.1) (tg fun w => Q (.val w, t.2)))))) := by
  unfold cSl
  (repeat' first | exact rfl | exact ev_some | exact ev_none | refine cnd_cg ?_ ?_ | refine rq_cg ?_ | refine ev_cg fun _ => ?_ | rw [ev_bind] | rw [ev_map] | rw [ev_rq] | rw [ev_ite])
@[simp ↓] theorem ev_chain {G G' : D → D → Option W} : Ev (cChain G G' f g h env) (tg Q) = Ev (f env) (tg fun p => Ev (g p.2) (tg fun q => Ev (p.1.rd q.2) (tg fun da => Ev (q.1.rd q.2) (tg fun db => Ev (G da db) (tg fun w => match w with
    | .v (.bl b) => Cnd (b = true) (tg (Ev (h q.2) (tg fun t => Ev (q.1.rd t.2) (tg fun db' => Ev (t.1.rd t.2) (tg fun dc => Ev (G' db' dc) (tg fun w' => Q (.val w', t.2))))))) (tg (Q (.val (.v (.bl false)), q.2)))
    | _ => False))))) := by
  unfold cChain
  rw [ev_bind]
  refine ev_cg fun p => ?_; rw [ev_bind]; refine ev_cg fun q => ?_; rw [ev_bind]; refine ev_cg fun da => ?_; rw [ev_bind]; refine ev_cg fun db => ?_; rw [ev_bind]; refine ev_cg fun w => ?_
  match w with
  | .v (.bl false) => simp only; rw [cnd_neg (by decide)]; exact ev_some
  | .v (.bl true) =>
    simp only
    rw [cnd_pos (by decide)]
    (repeat' first | exact rfl | exact ev_some | exact ev_none | refine cnd_cg ?_ ?_ | refine rq_cg ?_ | refine ev_cg fun _ => ?_ | rw [ev_bind] | rw [ev_map] | rw [ev_rq] | rw [ev_ite])
  | .v .non => (first | rfl | exact ev_some | exact ev_none | exact ev_none.trans ev_none.symm | (rw [ev_some]; first | rfl | exact ev_some | (rw [ev_some]; done) | exact ev_none))
  | .v (.int _) => (first | rfl | exact ev_some | exact ev_none | exact ev_none.trans ev_none.symm | (rw [ev_some]; first | rfl | exact ev_some | (rw [ev_some]; done) | exact ev_none))
  | .v (.str _) => (first | rfl | exact ev_some | exact ev_none | exact ev_none.trans ev_none.symm | (rw [ev_some]; first | rfl | exact ev_some | (rw [ev_some]; done) | exact ev_none))
  | .v (.lst _) => (first | rfl | exact ev_some | exact ev_none | exact ev_none.trans ev_none.symm | (rw [ev_some]; first | rfl | exact ev_some | (rw [ev_some]; done) | exact ev_none))
  | .v (.tup _) => (first | rfl | exact ev_some | exact ev_none | exact ev_none.trans ev_none.symm | (rw [ev_some]; first | rfl | exact ev_some | (rw [ev_some]; done) | exact ev_none))
  | .v (.dic _) => (first | rfl | exact ev_some | exact ev_none | exact ev_none.trans ev_none.symm | (rw [ev_some]; first | rfl | exact ev_some | (rw [ev_some]; done) | exact ev_none))
  | .v (.scr _) => (first | rfl | exact ev_some | exact ev_none | exact ev_none.trans ev_none.symm | (rw [ev_some]; first | rfl | exact ev_some | (rw [ev_some]; done) | exact ev_none))
  | .t _ => (first | rfl | exact ev_some | exact ev_none | exact ev_none.trans ev_none.symm | (rw [ev_some]; first | rfl | exact ev_some | (rw [ev_some]; done) | exact ev_none))
  | .l _ => (first | rfl | exact ev_some | exact ev_none | exact ev_none.trans ev_none.symm | (rw [ev_some]; first | rfl | exact ev_some | (rw [ev_some]; done) | exact ev_none))
  | .k _ => (first | rfl | exact ev_some | exact ev_none | exact ev_none.trans ev_none.symm | (rw [ev_some]; first | rfl | exact ev_some | (rw [ev_some]; done) | exact ev_none))
/-! statements -/
@[simp ↓] theorem ev_seq : Ev (seqS s t env) (tg S) = Ev (s env) (tg fun p => match p.1 with | .nx => Ev (t p.2) (tg S) | fl => S (fl, p.2)) := by
  unfold seqS
  rw [ev_bind]
  refine ev_cg fun p => ?_
  obtain ⟨fl, e⟩ := p
  cases fl <;> (first | rfl | exact ev_some | exact ev_none | exact ev_none.trans ev_none.symm | (rw [ev_some]; first | rfl | exact ev_some | (rw [ev_some]; done) | exact ev_none))
@[simp ↓] theorem ev_nil : Ev (sNil env) (tg S) = S (.nx, env) := by first | exact ev_some | exact eq_of_heq HEq.rfl
@[simp ↓] theorem ev_ct : Ev (sCt env) (tg S) = S (.ct, env) := by first | exact ev_some | exact eq_of_heq HEq.rfl
@[simp ↓] theorem ev_bk : Ev (sBk env) (tg S) = S (.bk, env) := by first | exact ev_some | exact eq_of_heq HEq.rfl
@[simp ↓] theorem ev_retn : Ev (sRetN env) (tg S) = S (.rt (.v .non), env) := by first | exact ev_some | exact eq_of_heq HEq.rfl
@[simp ↓] theorem ev_sexpr : Ev (sExpr f env) (tg S) = Ev (f env) (tg fun p => S (.nx, p.2)) := ev_map
@[simp ↓] theorem ev_sif : Ev (sIf b s t env) (tg S) = Ev (b env) (tg fun p => Cnd (p.1 = true) (tg (Ev (s p.2) (tg S))) (tg (Ev (t p.2) (tg S)))) := by
  unfold sIf
  (repeat' first | exact rfl | exact ev_some | exact ev_none | refine cnd_cg ?_ ?_ | refine rq_cg ?_ | refine ev_cg fun _ => ?_ | rw [ev_bind] | rw [ev_map] | rw [ev_rq] | rw [ev_ite])
@[simp ↓] theorem ev_set : Ev (sSet i f env) (tg S) = Ev (f env) (tg fun p => Ev (p.1.take p.2) (tg fun q => S (.nx, q.2.set i (some q.1)))) := by
  unfold sSet
  (repeat' first | exact rfl | exact ev_some | exact ev_none | refine cnd_cg ?_ ?_ | refine rq_cg ?_ | refine ev_cg fun _ => ?_ | rw [ev_bind] | rw [ev_map] | rw [ev_rq] | rw [ev_ite])
@[simp ↓] theorem ev_ret {P : List Nat} : Ev (sRet P f env) (tg S) = Ev (f env) (tg fun p => match p.1 with
  | .val w => S (.rt w, p.2)
  | .ref j => Cnd (j ∈ P) (tg False) (tg (Ev (gt p.2 j) (tg fun w => S (.rt w, p.2.set j none))))) := by
  unfold sRet
  rw [ev_bind]
  refine ev_cg fun p => ?_
  obtain ⟨o, e⟩ := p
  cases o with
  | val w => (first | rfl | exact ev_some | exact ev_none | exact ev_none.trans ev_none.symm | (rw [ev_some]; first | rfl | exact ev_some | (rw [ev_some]; done) | exact ev_none))
  | ref j => simp only; rw [ev_ite, ev_map, ev_none]
@[simp ↓] theorem ev_put : Ev (sPut f g h env) (tg S) = Ev (f env) (tg fun p => Ev (g p.2) (tg fun q => Ev (h q.2) (tg fun t => match q.1 with
  | .ref j => Ev (t.1.rd t.2) (tg fun i => Ev (p.1.frz t.2) (tg fun u => Ev (gt u.2 j) (tg fun w => Ev (putAt w i u.1) (tg fun w' => S (.nx, u.2.set j (some w'))))))
  | _ => False))) := by
  unfold sPut
  rw [ev_bind]
  refine ev_cg fun p => ?_; rw [ev_bind]; refine ev_cg fun q => ?_; rw [ev_bind]; refine ev_cg fun t => ?_
  obtain ⟨o, e⟩ := q
  cases o with
  | val w => (first | rfl | exact ev_some | exact ev_none | exact ev_none.trans ev_none.symm | (rw [ev_some]; first | rfl | exact ev_some | (rw [ev_some]; done) | exact ev_none))
  | ref j => (repeat' first | exact rfl | exact ev_some | exact ev_none | refine cnd_cg ?_ ?_ | refine rq_cg ?_ | refine ev_cg fun _ => ?_ | rw [ev_bind] | rw [ev_map] | rw [ev_rq] | rw [ev_ite])
@[simp ↓] theorem ev_par {js : List Nat} : Ev (sPar js a env) (tg S) = Ev (a env) (tg fun p => Ev (fzN js.length p) (tg fun q => Ev (putAll js q.1 q.2) (tg fun e => S (.nx, e)))) := by
  unfold sPar
  (repeat' first | exact rfl | exact ev_some | exact ev_none | refine cnd_cg ?_ ?_ | refine rq_cg ?_ | refine ev_cg fun _ => ?_ | rw [ev_bind] | rw [ev_map] | rw [ev_rq] | rw [ev_ite])
@[simp ↓] theorem ev_fz0 {p : List Opd × Env} : Ev (fzN 0 p) (tg A) = A p := by first | exact ev_some | exact eq_of_heq HEq.rfl
@[simp ↓] theorem ev_fzs {k : Nat} {p : List Opd × Env} : Ev (fzN (k + 1) p) (tg A) = Ev (fz1 k p) (tg fun q => Ev (fzN k q) (tg A)) := by
  show Ev ((fz1 k p).bind (fzN k)) (tg A) = _
  rw [ev_bind]
@[simp ↓] theorem ev_pall0 : Ev (putAll [] [] env) (tg E) = E env := by first | exact ev_some | exact eq_of_heq HEq.rfl
@[simp ↓] theorem ev_pall1 {j : Nat} {js : List Nat} {os : List Opd} : Ev (putAll (j :: js) (.val w :: os) env) (tg E) = Ev (putAll js os (env.set j (some w))) (tg E) := by first | exact ev_some | exact eq_of_heq HEq.rfl
@[simp ↓] theorem ev_unp {G : GV} : Ev (sUnp G f env) (tg S) = Ev (f env) (tg fun p => Ev (p.1.frz p.2) (tg fun q => Ev (G q.1 q.2) (tg fun e => S (.nx, e)))) := by
  unfold sUnp
  (repeat' first | exact rfl | exact ev_some | exact ev_none | refine cnd_cg ?_ ?_ | refine rq_cg ?_ | refine ev_cg fun _ => ?_ | rw [ev_bind] | rw [ev_map] | rw [ev_rq] | rw [ev_ite])
@[simp ↓] theorem ev_gn : Ev (gtName i d env) (tg E) = E (env.set i (some (.v d))) := by first | exact ev_some | exact eq_of_heq HEq.rfl
@[simp ↓] theorem ev_gnil : Ev (gtNil [] env) (tg E) = E env := by first | exact ev_some | exact eq_of_heq HEq.rfl
@[simp ↓] theorem ev_gcons {G : GV} {hh : List D → Env → Option Env} {ds : List D} : Ev (gtCons G hh (d :: ds) env) (tg E) = Ev (G d env) (tg fun e1 => Ev (hh ds e1) (tg E)) := by
  show Ev ((G d env).bind (hh ds)) (tg E) = _
  rw [ev_bind]
@[simp ↓] theorem ev_gtup {n : Nat} {hh : List D → Env → Option Env} {ds : List D} : Ev (gtTup n hh (.tup ds) env) (tg E) = Rq (ds.length = n) (tg (Ev (hh ds env) (tg E))) := by
  show Ev (if ds.length = n then hh ds env else none) (tg E) = _
  rw [ev_rq]
@[simp ↓] theorem ev_iseq {P : List D × Env → Prop} : Ev (iSeq f env) (tg P) = Ev (f env) (tg fun p => Ev (p.1.frz p.2) (tg fun q => Ev q.1.items (tg fun ds => P (ds, q.2)))) := by
  unfold iSeq
  (repeat' first | exact rfl | exact ev_some | exact ev_none | refine cnd_cg ?_ ?_ | refine rq_cg ?_ | refine ev_cg fun _ => ?_ | rw [ev_bind] | rw [ev_map] | rw [ev_rq] | rw [ev_ite])
@[simp ↓] theorem ev_for {it : IV} {G : GV} : Ev (sFor it G s env) (tg S) = Ev (it env) (tg fun p => Ev (forL G s p.1 p.2) (tg S)) := by
  unfold sFor
  (repeat' first | exact rfl | exact ev_some | exact ev_none | refine cnd_cg ?_ ?_ | refine rq_cg ?_ | refine ev_cg fun _ => ?_ | rw [ev_bind] | rw [ev_map] | rw [ev_rq] | rw [ev_ite])
@[simp ↓] theorem ev_for0 {G : GV} : Ev (forL G s [] env) (tg S) = S (.nx, env) := by first | exact ev_some | exact eq_of_heq HEq.rfl
theorem ev_for1 {G : GV} {ds : List D} : Ev (forL G s (d :: ds) env) (tg S) = Ev (G d env) (tg fun e1 => Ev (s e1) (tg fun p => match p.1 with
    | .nx => Ev (forL G s ds p.2) (tg S)
    | .ct => Ev (forL G s ds p.2) (tg S)
    | .bk => S (.nx, p.2)
    | .rt w => S (.rt w, p.2))) := by
  show Ev ((G d env).bind fun e1 => (s e1).bind fun p => match p.1 with
    | .nx => forL G s ds p.2
    | .ct => forL G s ds p.2
    | .bk => some (.nx, p.2)
    | .rt w => some (.rt w, p.2)) (tg S) = _
  rw [ev_bind]
  refine ev_cg fun e1 => ?_; rw [ev_bind]; refine ev_cg fun p => ?_
  obtain ⟨fl, e⟩ := p
  cases fl <;> (first | rfl | exact ev_some | exact ev_none | exact ev_none.trans ev_none.symm | (rw [ev_some]; first | rfl | exact ev_some | (rw [ev_some]; done) | exact ev_none))
@[simp ↓] theorem ev_lc {it : IV} {G : GV} {vs : List Nat} : Ev (cLc it G c f vs env) (tg Q) = Ev (it env) (tg fun p => Rq (quiet p.2 vs = true) (tg (Ev (lcL G c f vs p.1 [] (wipeE p.2 vs)) (tg fun q => Rq (q.2.length = p.2.length) (tg (Q (.val (.l q.1), restE p.2 q.2 vs))))))) := by
  unfold cLc
  (repeat' first | exact rfl | exact ev_some | exact ev_none | refine cnd_cg ?_ ?_ | refine rq_cg ?_ | refine ev_cg fun _ => ?_ | rw [ev_bind] | rw [ev_map] | rw [ev_rq] | rw [ev_ite])
@[simp ↓] theorem ev_lc0 {G : GV} {vs : List Nat} {acc : List D} {P : List D × Env → Prop} : Ev (lcL G c f vs [] acc env) (tg P) = P (acc, env) := by first | exact ev_some | exact eq_of_heq HEq.rfl
theorem ev_lc1 {G : GV} {vs : List Nat} {ds acc : List D} {P : List D × Env → Prop} : Ev (lcL G c f vs (d :: ds) acc env) (tg P) = Ev (G d env) (tg fun e1 => Ev (c e1) (tg fun p => Cnd (p.1 = true) (tg (Ev (f p.2) (tg fun q => Ev (q.1.frz q.2) (tg fun t => Rq (acc.length < sizeLine) (tg (Ev (lcL G c f vs ds (acc ++ [t.1]) (wipeE t.2 vs)) (tg P))))))) (tg (Ev (lcL G c f vs ds acc (wipeE p.2 vs)) (tg P))))) := by
  show Ev ((G d env).bind fun e1 => (c e1).bind fun p => if p.1 then (f p.2).bind fun q => (q.1.frz q.2).bind fun t => if acc.length < sizeLine then lcL G c f vs ds (acc ++ [t.1]) (wipeE t.2 vs) else none
    else lcL G c f vs ds acc (wipeE p.2 vs)) (tg P) = _
  (repeat' first | exact rfl | exact ev_some | exact ev_none | refine cnd_cg ?_ ?_ | refine rq_cg ?_ | refine ev_cg fun _ => ?_ | rw [ev_bind] | rw [ev_map] | rw [ev_rq] | rw [ev_ite])
@[simp] theorem quiet_nil : quiet env [] = true := by first | exact ev_some | exact eq_of_heq HEq.rfl
@[simp] theorem quiet_cons {vs : List Nat} : quiet env (i :: vs) = ((match gt env i with
  | none => true
  | some (.v _) => true
  | some (.t _) => true
  | _ => false) && quiet env vs) := by first | exact ev_some | exact eq_of_heq HEq.rfl
@[simp] theorem wipe_nil : wipeE env [] = env := by first | exact ev_some | exact eq_of_heq HEq.rfl
@[simp] theorem wipe_cons {vs : List Nat} : wipeE env (i :: vs) = (wipeE env vs).set i none := by first | exact ev_some | exact eq_of_heq HEq.rfl
@[simp] theorem rest_nil {e2 : Env} : restE env e2 [] = e2 := by first | exact ev_some | exact eq_of_heq HEq.rfl
@[simp] theorem rest_cons {e2 : Env} {vs : List Nat} : restE env e2 (i :: vs) = (restE env e2 vs).set i (gt env i) := by first | exact ev_some | exact eq_of_heq HEq.rfl
@[simp] theorem isV_v : (W.v d).isV = true := by first | exact ev_some | exact eq_of_heq HEq.rfl
@[simp] theorem isV_t {ds : List D} : (W.t ds).isV = true := by first | exact ev_some | exact eq_of_heq HEq.rfl
@[simp ↓] theorem ev_runF {N n : Nat} {ws : List W} {P : W × List W → Prop} : Ev (runB N n false s ws) (tg P) = Rq (ws.length = n ∧ ws.all W.isV = true) (tg (Ev (s (ws.map some ++ List.replicate (N - n) none)) (tg fun p => match p.1 with
    | .rt w => P (w, ws)
    | .nx => P (.v .non, ws)
    | _ => False))) := by
  unfold runB
  by_cases h1 : ws.length = n
  · by_cases h2 : ws.all W.isV = true
    · simp only [h1, h2, if_true, and_self]
      rw [ev_bind, rq_true]
      refine ev_cg fun p => ?_
      obtain ⟨fl, e⟩ := p
      cases fl <;> (first | rfl | exact ev_some | exact ev_none | exact ev_none.trans ev_none.symm | (rw [ev_some]; first | rfl | exact ev_some | (rw [ev_some]; done) | exact ev_none))
    · rw [if_pos h1]
      simp only
      rw [if_neg h2, ev_none]
      exact propext ⟨fun z => z.elim, fun z => h2 z.1.2⟩
  · rw [if_neg h1, ev_none]
    exact propext ⟨fun z => z.elim, fun z => h1 z.1.1⟩
@[simp ↓] theorem ev_runT {N n : Nat} {w0 : W} {ws : List W} {P : W × List W → Prop} : Ev (runB N n true s (w0 :: ws)) (tg P) = Rq (ws.length + 1 = n ∧ ws.all W.isV = true) (tg (Ev (s (some w0 :: (ws.map some ++ List.replicate (N - n) none))) (tg fun p => Ev (gt p.2 0) (tg fun w1 => match p.1 with
    | .rt w => P (w, w1 :: ws)
    | .nx => P (.v .non, w1 :: ws)
    | _ => False)))) := by
  unfold runB
  by_cases h1 : ws.length + 1 = n
  · by_cases h2 : ws.all W.isV = true
    · simp only [h1, h2, if_true, and_self, List.length_cons]
      rw [ev_bind, rq_true]
      refine ev_cg fun p => ?_
      obtain ⟨fl, e⟩ := p
      rw [ev_bind]
      refine ev_cg fun w1 => ?_
      cases fl <;> (first | rfl | exact ev_some | exact ev_none | exact ev_none.trans ev_none.symm | (rw [ev_some]; first | rfl | exact ev_some | (rw [ev_some]; done) | exact ev_none))
    · rw [List.length_cons, if_pos h1]
      simp only
      rw [if_neg h2, ev_none]
      exact propext ⟨fun z => z.elim, fun z => h2 z.1.2⟩
  · rw [List.length_cons, if_neg h1, ev_none]
    exact propext ⟨fun z => z.elim, fun z => h1 z.1.1⟩
end
section
variable {Z : W → Prop} {i j : Int} {x y : List Nat} {ds es : List D} {d e : D}
@[simp ↓] theorem ev_addI : Ev (gAdd (.int i) (.int j)) (tg Z) = Z (.v (.int (i + j))) := by first | exact ev_some | exact eq_of_heq HEq.rfl
@[simp ↓] theorem ev_addS : Ev (gAdd (.str x) (.str y)) (tg Z) = Rq (x.length + y.length ≤ sizeLine) (tg (Z (.v (.str (x ++ y))))) := ev_rqs
@[simp ↓] theorem ev_addL : Ev (gAdd (.lst ds) (.lst es)) (tg Z) = Rq (ds.length + es.length ≤ sizeLine) (tg (Z (.l (ds ++ es)))) := ev_rqs
@[simp ↓] theorem ev_addT : Ev (gAdd (.tup ds) (.tup es)) (tg Z) = Rq (ds.length + es.length ≤ sizeLine) (tg (Z (.v (.tup (ds ++ es))))) := ev_rqs
@[simp ↓] theorem ev_sub : Ev (gSub (.int i) (.int j)) (tg Z) = Z (.v (.int (i - j))) := by first | exact ev_some | exact eq_of_heq HEq.rfl
@[simp ↓] theorem ev_mulI : Ev (gMul (.int i) (.int j)) (tg Z) = Rq (i.natAbs < 2 ^ 64 ∨ j.natAbs < 2 ^ 64) (tg (Z (.v (.int (i * j))))) := ev_rqs
@[simp ↓] theorem ev_mulS : Ev (gMul (.str x) (.int j)) (tg Z) = Rq (0 ≤ j ∧ j < 2 ^ 20 ∧ x.length * j.toNat ≤ sizeLine) (tg (Z (.v (.str (List.replicate j.toNat x).flatten)))) := ev_rqs
@[simp ↓] theorem ev_fdiv : Ev (gFdiv (.int i) (.int j)) (tg Z) = Rq (0 < j ∧ j < 2 ^ 64) (tg (Z (.v (.int (i / j))))) := ev_rqs
@[simp ↓] theorem ev_mod : Ev (gMod (.int i) (.int j)) (tg Z) = Rq (0 < j) (tg (Z (.v (.int (i % j))))) := ev_rqs
@[simp ↓] theorem ev_pow : Ev (gPow (.int i) (.int j)) (tg Z) = Rq (0 ≤ j ∧ j ≤ 1000 ∧ i.natAbs < 2 ^ 64) (tg (Z (.v (.int (i ^ j.toNat))))) := ev_rqs
@[simp ↓] theorem ev_eq : Ev (gEq d e) (tg Z) = Rq ((okD 60 d && okD 60 e) = true) (tg (Z (.v (.bl (D.eqv d e))))) := ev_rqs
@[simp ↓] theorem ev_ne : Ev (gNe d e) (tg Z) = Rq ((okD 60 d && okD 60 e) = true) (tg (Z (.v (.bl (!D.eqv d e))))) := ev_rqs
@[simp ↓] theorem ev_ltI : Ev (gLt (.int i) (.int j)) (tg Z) = Z (.v (.bl (decide (i < j)))) := by first | exact ev_some | exact eq_of_heq HEq.rfl
@[simp ↓] theorem ev_leI : Ev (gLe (.int i) (.int j)) (tg Z) = Z (.v (.bl (decide (i ≤ j)))) := by first | exact ev_some | exact eq_of_heq HEq.rfl
@[simp ↓] theorem ev_gtI : Ev (gGt (.int i) (.int j)) (tg Z) = Z (.v (.bl (decide (j < i)))) := by first | exact ev_some | exact eq_of_heq HEq.rfl
@[simp ↓] theorem ev_geI : Ev (gGe (.int i) (.int j)) (tg Z) = Z (.v (.bl (decide (j ≤ i)))) := by first | exact ev_some | exact eq_of_heq HEq.rfl
@[simp ↓] theorem ev_ltS : Ev (gLt (.str x) (.str y)) (tg Z) = Z (.v (.bl (decide (x < y)))) := by first | exact ev_some | exact eq_of_heq HEq.rfl
@[simp ↓] theorem ev_leS : Ev (gLe (.str x) (.str y)) (tg Z) = Z (.v (.bl (!decide (y < x)))) := by first | exact ev_some | exact eq_of_heq HEq.rfl
@[simp ↓] theorem ev_in : Ev (gIn d e) (tg Z) = Ev (d.inAny e) (tg fun c => Z (.v (.bl c))) := ev_map
@[simp ↓] theorem ev_nin : Ev (gNotIn d e) (tg Z) = Ev (d.inAny e) (tg fun c => Z (.v (.bl (!c)))) := ev_map
@[simp ↓] theorem ev_inL {P : Bool → Prop} : Ev (d.inAny (.lst ds)) (tg P) = Rq ((okD 60 d && okD 60 (.lst ds)) = true) (tg (P (ds.any fun e => D.eqv e d))) := ev_rqs
@[simp ↓] theorem ev_inT {P : Bool → Prop} : Ev (d.inAny (.tup ds)) (tg P) = Rq ((d.flat && ds.all D.flat) = true) (tg (P (ds.any fun e => D.eqv e d))) := ev_rqs
@[simp ↓] theorem ev_inS {P : Bool → Prop} {c : Nat} : Ev (D.inAny (.str [c]) (.str x)) (tg P) = P (decide (c ∈ x)) := by first | exact ev_some | exact eq_of_heq HEq.rfl
@[simp ↓] theorem ev_inK {P : Bool → Prop} {ks : List (D × D)} : Ev (d.inAny (.dic ks)) (tg P) = Ev d.key (tg fun _ => P (look ks d).isSome) := ev_map
@[simp ↓] theorem ev_ixL : Ev (gIx (.lst ds) (.int i)) (tg Z) = Ev (atI ds i) (tg fun d => Z (.v d)) := ev_map
@[simp ↓] theorem ev_ixT : Ev (gIx (.tup ds) (.int i)) (tg Z) = Ev (atI ds i) (tg fun d => Z (.v d)) := ev_map
@[simp ↓] theorem ev_ixS : Ev (gIx (.str x) (.int i)) (tg Z) = Ev (atI x i) (tg fun c => Z (.v (.str [c]))) := ev_map
@[simp ↓] theorem ev_ixK {ks : List (D × D)} : Ev (gIx (.dic ks) d) (tg Z) = Ev d.key (tg fun _ => Ev (look ks d) (tg fun d => Z (.v d))) := by
  show Ev (d.key.bind fun _ => (look ks d).map .v) (tg Z) = _
  (repeat' first | exact rfl | exact ev_some | exact ev_none | refine cnd_cg ?_ ?_ | refine rq_cg ?_ | refine ev_cg fun _ => ?_ | rw [ev_bind] | rw [ev_map] | rw [ev_rq] | rw [ev_ite])
@[simp ↓] theorem ev_lenS : Ev (gLen [.str x]) (tg Z) = Z (.v (.int x.length)) := by first | exact ev_some | exact eq_of_heq HEq.rfl
@[simp ↓] theorem ev_lenL : Ev (gLen [.lst ds]) (tg Z) = Z (.v (.int ds.length)) := by first | exact ev_some | exact eq_of_heq HEq.rfl
@[simp ↓] theorem ev_lenT : Ev (gLen [.tup ds]) (tg Z) = Z (.v (.int ds.length)) := by first | exact ev_some | exact eq_of_heq HEq.rfl
@[simp ↓] theorem ev_lenK {ks : List (D × D)} : Ev (gLen [.dic ks]) (tg Z) = Z (.v (.int ks.length)) := by first | exact ev_some | exact eq_of_heq HEq.rfl
@[simp ↓] theorem ev_listL : Ev (gList [.lst ds]) (tg Z) = Z (.l ds) := by first | exact ev_some | exact eq_of_heq HEq.rfl
@[simp ↓] theorem ev_listT : Ev (gList [.tup ds]) (tg Z) = Z (.l ds) := by first | exact ev_some | exact eq_of_heq HEq.rfl
@[simp ↓] theorem ev_listR : Ev (gList [.scr ds]) (tg Z) = Z (.l ds) := by first | exact ev_some | exact eq_of_heq HEq.rfl
@[simp ↓] theorem ev_listK {ks : List (D × D)} : Ev (gList [.dic ks]) (tg Z) = Z (.l (ks.map (·.1))) := by first | exact ev_some | exact eq_of_heq HEq.rfl
@[simp ↓] theorem ev_listS : Ev (gList [.str x]) (tg Z) = Z (.l (x.map fun c => .str [c])) := by first | exact ev_some | exact eq_of_heq HEq.rfl
@[simp ↓] theorem ev_tupL : Ev (gTuple [.lst ds]) (tg Z) = Z (.v (.tup ds)) := by first | exact ev_some | exact eq_of_heq HEq.rfl
@[simp ↓] theorem ev_tupT : Ev (gTuple [.tup ds]) (tg Z) = Z (.v (.tup ds)) := by first | exact ev_some | exact eq_of_heq HEq.rfl
@[simp ↓] theorem ev_split {c : Nat} : Ev (gSplit (.str x) [.str [c]]) (tg Z) = Rq (x.length + 2 ≤ sizeLine ∧ c < 256) (tg (Z (.l ((splitC c x).map D.str)))) := ev_rqs
@[simp ↓] theorem ev_put1 {u : D} : Ev (putAt (.l ds) (.int i) u) (tg Z) = Ev (ixN ds.length i) (tg fun j => Z (.l (ds.set j u))) := ev_map
@[simp ↓] theorem ev_putK {ks : List (D × D)} {u : D} : Ev (putAt (.k ks) d u) (tg Z) = Rq (ks.length < sizeLine) (tg (Ev d.key (tg fun _ => Z (.k (putD ks d u))))) := by
  show Ev (if ks.length < sizeLine then d.key.map fun _ => W.k (putD ks d u) else none) (tg Z) = _
  rw [ev_rq, ev_map]
@[simp ↓] theorem ev_app {P : D × List D → Prop} : Ev (gAppend ds [d]) (tg P) = Rq (ds.length < sizeLine) (tg (P (.non, ds ++ [d]))) := ev_rqs
@[simp ↓] theorem ev_ixN0 {n : Nat} {P : Nat → Prop} (h : 0 ≤ i ∧ i < n) : Ev (ixN n i) (tg P) = P i.toNat := by
  unfold ixN; rw [if_pos h.1, if_pos h.2]; exact ev_some
@[simp ↓] theorem ev_atI {α : Type} {xs : List α} {P : α → Prop} : Ev (atI xs i) (tg P) = Ev (ixN xs.length i) (tg fun j => Ev xs[j]? (tg P)) := by
  unfold L2.atI; rw [ev_bind]
@[simp ↓] theorem ev_get0 {α : Type} {a : α} {xs : List α} {P : α → Prop} : Ev (a :: xs)[0]? (tg P) = P a := by first | exact ev_some | exact eq_of_heq HEq.rfl
@[simp ↓] theorem ev_gets {α : Type} {a : α} {xs : List α} {n : Nat} {P : α → Prop} : Ev (a :: xs)[n + 1]? (tg P) = Ev xs[n]? (tg P) := by rw [List.getElem?_cons_succ]
end
@[simp] theorem sz : sizeLine = 16777216 := by first | exact ev_some | exact eq_of_heq HEq.rfl
end PD

set_option Elab.async false
set_option linter.all false
set_option maxRecDepth 100000
/-! P18: loops and comprehensions by rules; the tape. -/
namespace PD
open PySem PySem.Spec L2
open PyProof.Rows hiding St
section
variable {env : Env} {f : EV} {c : BV} {s : SV} {G : GV} {ds acc : List D} {vs : List Nat} {S : Fl × Env → Prop} {P : List D × Env → Prop}
/-- a loop that keeps I, told of the items that are left -/
theorem ev_forR (I : List D → Env → Prop) (h0 : I ds env) (h : ∀ d rest e, I (d :: rest) e → Ev (G d e) (tg fun e1 => Ev (s e1) (tg fun p => match p.1 with
    | .nx => I rest p.2
    | .ct => I rest p.2
    | .bk => S (.nx, p.2)
    | .rt w => S (.rt w, p.2)))) (k : ∀ e, I [] e → S (.nx, e)) : Ev (forL G s ds env) (tg S) := by
  induction ds generalizing env with
  | nil => rw [ev_for0]; exact k env h0
  | cons d ds ih =>
    rw [ev_for1]
    refine (h d ds env h0).mono fun e1 q => q.mono fun p q => ?_
    obtain ⟨fl, e⟩ := p
    cases fl with
    | nx => exact ih q
    | ct => exact ih q
    | bk => exact q
    | rt w => exact q
/-- a loop over items that all are good, which keeps I -/
theorem ev_forA (I : Env → Prop) (A : D → Prop) (hA : ∀ d ∈ ds, A d) (h0 : I env) (h : ∀ d e, A d → I e → Ev (G d e) (tg fun e1 => Ev (s e1) (tg fun p => match p.1 with
    | .nx => I p.2
    | .ct => I p.2
    | .bk => S (.nx, p.2)
    | .rt w => S (.rt w, p.2)))) (k : ∀ e, I e → S (.nx, e)) : Ev (forL G s ds env) (tg S) :=
  ev_forR (fun r e => (∀ d ∈ r, A d) ∧ I e) ⟨hA, h0⟩ (fun d r e hI => (h d e (hI.1 d List.mem_cons_self) hI.2).mono fun e1 q => q.mono fun p q => by
    obtain ⟨fl, e⟩ := p
    have hr : ∀ x ∈ r, A x := fun x hx => hI.1 x (List.mem_cons_of_mem _ hx)
    cases fl with
    | nx => exact ⟨hr, q⟩
    | ct => exact ⟨hr, q⟩
    | bk => exact q
    | rt w => exact q) fun e hI => k e hI.2
/-- a comprehension that changes no slot -/
theorem ev_lcF (φ : D → Option D) (hs : acc.length + ds.length ≤ sizeLine) (h : ∀ d ∈ ds, Ev (G d env) (tg fun e1 => Ev (c e1) (tg fun p => match φ d with
    | some v => p.1 = true ∧ Ev (f p.2) (tg fun q => Ev (q.1.frz q.2) (tg fun t => t.1 = v ∧ wipeE t.2 vs = env))
    | none => p.1 = false ∧ wipeE p.2 vs = env))) (k : P (acc ++ ds.filterMap φ, env)) : Ev (lcL G c f vs ds acc env) (tg P) := by
  induction ds generalizing acc with
  | nil => rw [ev_lc0]; simpa using k
  | cons d ds ih =>
    rw [ev_lc1]
    refine (h d List.mem_cons_self).mono fun e1 q => q.mono fun p q => ?_
    have h' := fun x hx => h x (List.mem_cons_of_mem d hx)
    rw [List.length_cons] at hs
    cases e : φ d with
    | none =>
      rw [e] at q
      obtain ⟨q1, q2⟩ := q
      rw [q1, cnd_neg (by simp), q2]
      refine ih (by omega) h' ?_
      rw [List.filterMap_cons, e] at k
      exact k
    | some v =>
      rw [e] at q
      obtain ⟨q1, q2⟩ := q
      rw [q1, cnd_pos rfl]
      refine q2.mono fun t q => q.mono fun u q => ?_
      rw [rq_of (by omega), q.1, q.2]
      refine ih (by simp at hs ⊢; omega) h' ?_
      rw [List.filterMap_cons, e] at k
      simpa using k
/-- .. over items of one shape, some of them kept -/
theorem ev_lcM {γ : Type} {xs : List γ} (mk : γ → D) (keep : γ → Bool) (out : γ → D) (hs : acc.length + xs.length ≤ sizeLine) (h : ∀ x ∈ xs, Ev (G (mk x) env) (tg fun e1 => Ev (c e1) (tg fun p => p.1 = keep x ∧
    (keep x = true → Ev (f p.2) (tg fun q => Ev (q.1.frz q.2) (tg fun t => t.1 = out x ∧ wipeE t.2 vs = env))) ∧ (keep x = false → wipeE p.2 vs = env)))) (k : P (acc ++ (xs.filter keep).map out, env)) : Ev (lcL G c f vs (xs.map mk) acc env) (tg P) := by
  induction xs generalizing acc with
  | nil => rw [List.map_nil, ev_lc0]; simpa using k
  | cons d ds ih =>
    rw [List.map_cons, ev_lc1]
    refine (h d List.mem_cons_self).mono fun e1 q => q.mono fun p q => ?_
    have h' := fun x hx => h x (List.mem_cons_of_mem d hx)
    rw [List.length_cons] at hs
    obtain ⟨q1, q2, q3⟩ := q
    cases e : keep d with
    | false =>
      rw [q1, e, cnd_neg (by simp), q3 e]
      refine ih (by omega) h' ?_
      rw [List.filter_cons, e] at k
      simpa using k
    | true =>
      rw [q1, e, cnd_pos rfl]
      refine (q2 e).mono fun t q => q.mono fun u q => ?_
      rw [rq_of (by omega), q.1, q.2]
      refine ih (by simp at hs ⊢; omega) h' ?_
      rw [List.filter_cons, e] at k
      simpa using k
/-- a comprehension that keeps I -/
theorem ev_lcR (I : List D → List D → Env → Prop) (h0 : I ds acc env) (h : ∀ d rest a e, I (d :: rest) a e → Ev (G d e) (tg fun e1 => Ev (c e1) (tg fun p => (p.1 = true → Ev (f p.2) (tg fun q => Ev (q.1.frz q.2) (tg fun t => a.length < sizeLine ∧ I rest (a ++ [t.1]) (wipeE t.2 vs))))
    ∧ (p.1 = false → I rest a (wipeE p.2 vs))))) (k : ∀ a e, I [] a e → P (a, e)) : Ev (lcL G c f vs ds acc env) (tg P) := by
  induction ds generalizing acc env with
  | nil => rw [ev_lc0]; exact k _ _ h0
  | cons d ds ih =>
    rw [ev_lc1]
    refine (h d ds acc env h0).mono fun e1 q => q.mono fun p q => ?_
    cases e : p.1 with
    | true =>
      rw [cnd_pos rfl]
      refine (q.1 e).mono fun t q => q.mono fun u q => ?_
      rw [rq_of q.1]
      exact ih q.2
    | false =>
      rw [cnd_neg (by simp)]
      exact ih (q.2 e)
end
/-! ### the tape -/
structure Tp where
  ns : List Int
  a : Int
  b : Int
  hn : ns.length ≤ 63
  ha : 0 ≤ a
  hb : 0 ≤ b
def Tp.l (t : Tp) : List D := [.lst (t.ns.map .int), .int t.a, .int t.b]
theorem ixN_lt {n : Nat} {i : Int} (h0 : 0 ≤ i) (h1 : i < n) : ixN n i = some i.toNat := by
  unfold ixN; rw [if_pos h0, if_pos h1]
@[simp] theorem eqv_non_non   : D.eqv (.non) (.non) = true := by first | exact ev_some | exact eq_of_heq HEq.rfl
@[simp] theorem eqv_non_bl  {b : Bool} : D.eqv (.non) (.bl b) = false := by first | exact ev_some | exact eq_of_heq HEq.rfl
@[simp] theorem eqv_non_int  {b : Int} : D.eqv (.non) (.int b) = false := by first | exact ev_some | exact eq_of_heq HEq.rfl
@[simp] theorem eqv_non_str  {b : List Nat} : D.eqv (.non) (.str b) = false := by first | exact ev_some | exact eq_of_heq HEq.rfl
@[simp] theorem eqv_non_lst  {b : List D} : D.eqv (.non) (.lst b) = false := by first | exact ev_some | exact eq_of_heq HEq.rfl
@[simp] theorem eqv_non_tup  {b : List D} : D.eqv (.non) (.tup b) = false := by first | exact ev_some | exact eq_of_heq HEq.rfl
@[simp] theorem eqv_bl_non {a : Bool}  : D.eqv (.bl a) (.non) = false := by first | exact ev_some | exact eq_of_heq HEq.rfl
@[simp] theorem eqv_bl_bl {a : Bool} {b : Bool} : D.eqv (.bl a) (.bl b) = (a == b) := by first | exact ev_some | exact eq_of_heq HEq.rfl
@[simp] theorem eqv_bl_int {a : Bool} {b : Int} : D.eqv (.bl a) (.int b) = ((if a then 1 else 0) == b) := by first | exact ev_some | exact eq_of_heq HEq.rfl
@[simp] theorem eqv_bl_str {a : Bool} {b : List Nat} : D.eqv (.bl a) (.str b) = false := by first | exact ev_some | exact eq_of_heq HEq.rfl
@[simp] theorem eqv_bl_lst {a : Bool} {b : List D} : D.eqv (.bl a) (.lst b) = false := by first | exact ev_some | exact eq_of_heq HEq.rfl
@[simp] theorem eqv_bl_tup {a : Bool} {b : List D} : D.eqv (.bl a) (.tup b) = false := by first | exact ev_some | exact eq_of_heq HEq.rfl
@[simp] theorem eqv_int_non {a : Int}  : D.eqv (.int a) (.non) = false := by first | exact ev_some | exact eq_of_heq HEq.rfl
@[simp] theorem eqv_int_bl {a : Int} {b : Bool} : D.eqv (.int a) (.bl b) = (a == (if b then 1 else 0)) := by first | exact ev_some | exact eq_of_heq HEq.rfl
@[simp] theorem eqv_int_int {a : Int} {b : Int} : D.eqv (.int a) (.int b) = (a == b) := by first | exact ev_some | exact eq_of_heq HEq.rfl
@[simp] theorem eqv_int_str {a : Int} {b : List Nat} : D.eqv (.int a) (.str b) = false := by first | exact ev_some | exact eq_of_heq HEq.rfl
@[simp] theorem eqv_int_lst {a : Int} {b : List D} : D.eqv (.int a) (.lst b) = false := by first | exact ev_some | exact eq_of_heq HEq.rfl
@[simp] theorem eqv_int_tup {a : Int} {b : List D} : D.eqv (.int a) (.tup b) = false := by first | exact ev_some | exact eq_of_heq HEq.rfl
@[simp] theorem eqv_str_non {a : List Nat}  : D.eqv (.str a) (.non) = false := by first | exact ev_some | exact eq_of_heq HEq.rfl
@[simp] theorem eqv_str_bl {a : List Nat} {b : Bool} : D.eqv (.str a) (.bl b) = false := by first | exact ev_some | exact eq_of_heq HEq.rfl
@[simp] theorem eqv_str_int {a : List Nat} {b : Int} : D.eqv (.str a) (.int b) = false := by first | exact ev_some | exact eq_of_heq HEq.rfl
@[simp] theorem eqv_str_str {a : List Nat} {b : List Nat} : D.eqv (.str a) (.str b) = decide (a = b) := by first | exact ev_some | exact eq_of_heq HEq.rfl
@[simp] theorem eqv_str_lst {a : List Nat} {b : List D} : D.eqv (.str a) (.lst b) = false := by first | exact ev_some | exact eq_of_heq HEq.rfl
@[simp] theorem eqv_str_tup {a : List Nat} {b : List D} : D.eqv (.str a) (.tup b) = false := by first | exact ev_some | exact eq_of_heq HEq.rfl
@[simp] theorem eqv_lst_non {a : List D}  : D.eqv (.lst a) (.non) = false := by first | exact ev_some | exact eq_of_heq HEq.rfl
@[simp] theorem eqv_lst_bl {a : List D} {b : Bool} : D.eqv (.lst a) (.bl b) = false := by first | exact ev_some | exact eq_of_heq HEq.rfl
@[simp] theorem eqv_lst_int {a : List D} {b : Int} : D.eqv (.lst a) (.int b) = false := by first | exact ev_some | exact eq_of_heq HEq.rfl
@[simp] theorem eqv_lst_str {a : List D} {b : List Nat} : D.eqv (.lst a) (.str b) = false := by first | exact ev_some | exact eq_of_heq HEq.rfl
@[simp] theorem eqv_lst_lst {a : List D} {b : List D} : D.eqv (.lst a) (.lst b) = D.eqvs a b := by first | exact ev_some | exact eq_of_heq HEq.rfl
@[simp] theorem eqv_lst_tup {a : List D} {b : List D} : D.eqv (.lst a) (.tup b) = false := by first | exact ev_some | exact eq_of_heq HEq.rfl
@[simp] theorem eqv_tup_non {a : List D}  : D.eqv (.tup a) (.non) = false := by first | exact ev_some | exact eq_of_heq HEq.rfl
@[simp] theorem eqv_tup_bl {a : List D} {b : Bool} : D.eqv (.tup a) (.bl b) = false := by first | exact ev_some | exact eq_of_heq HEq.rfl
@[simp] theorem eqv_tup_int {a : List D} {b : Int} : D.eqv (.tup a) (.int b) = false := by first | exact ev_some | exact eq_of_heq HEq.rfl
@[simp] theorem eqv_tup_str {a : List D} {b : List Nat} : D.eqv (.tup a) (.str b) = false := by first | exact ev_some | exact eq_of_heq HEq.rfl
@[simp] theorem eqv_tup_lst {a : List D} {b : List D} : D.eqv (.tup a) (.lst b) = false := by first | exact ev_some | exact eq_of_heq HEq.rfl
@[simp] theorem eqv_tup_tup {a : List D} {b : List D} : D.eqv (.tup a) (.tup b) = D.eqvs a b := by first | exact ev_some | exact eq_of_heq HEq.rfl
@[simp] theorem ty_non  : D.ty (D.non) = "NoneType" := by first | exact ev_some | exact eq_of_heq HEq.rfl
@[simp] theorem nsc_non  : notScr (D.non) = true := by first | exact ev_some | exact eq_of_heq HEq.rfl
@[simp] theorem okD_non  {n : Nat} : okD n (D.non) = true := by cases n <;> rfl
@[simp] theorem ty_bl {a : Bool} : D.ty (D.bl a) = "bool" := by first | exact ev_some | exact eq_of_heq HEq.rfl
@[simp] theorem nsc_bl {a : Bool} : notScr (D.bl a) = true := by first | exact ev_some | exact eq_of_heq HEq.rfl
@[simp] theorem okD_bl {a : Bool} {n : Nat} : okD n (D.bl a) = true := by cases n <;> rfl
@[simp] theorem ty_int {a : Int} : D.ty (D.int a) = "int" := by first | exact ev_some | exact eq_of_heq HEq.rfl
@[simp] theorem nsc_int {a : Int} : notScr (D.int a) = true := by first | exact ev_some | exact eq_of_heq HEq.rfl
@[simp] theorem okD_int {a : Int} {n : Nat} : okD n (D.int a) = true := by cases n <;> rfl
@[simp] theorem ty_str {a : List Nat} : D.ty (D.str a) = "str" := by first | exact ev_some | exact eq_of_heq HEq.rfl
@[simp] theorem nsc_str {a : List Nat} : notScr (D.str a) = true := by first | exact ev_some | exact eq_of_heq HEq.rfl
@[simp] theorem okD_str {a : List Nat} {n : Nat} : okD n (D.str a) = true := by cases n <;> rfl
@[simp] theorem ty_lst {a : List D} : D.ty (D.lst a) = "list" := by first | exact ev_some | exact eq_of_heq HEq.rfl
@[simp] theorem nsc_lst {a : List D} : notScr (D.lst a) = true := by first | exact ev_some | exact eq_of_heq HEq.rfl
@[simp] theorem okD_lst {a : List D} {n : Nat} : okD (n + 1) (D.lst a) = a.all (okD n) := by first | exact ev_some | exact eq_of_heq HEq.rfl
@[simp] theorem ty_tup {a : List D} : D.ty (D.tup a) = "tuple" := by first | exact ev_some | exact eq_of_heq HEq.rfl
@[simp] theorem nsc_tup {a : List D} : notScr (D.tup a) = true := by first | exact ev_some | exact eq_of_heq HEq.rfl
@[simp] theorem okD_tup {a : List D} {n : Nat} : okD (n + 1) (D.tup a) = a.all (okD n) := by first | exact ev_some | exact eq_of_heq HEq.rfl
@[simp] theorem ty_dic {a : List (D × D)} : D.ty (D.dic a) = "dict" := by first | exact ev_some | exact eq_of_heq HEq.rfl
@[simp] theorem nsc_dic {a : List (D × D)} : notScr (D.dic a) = true := by first | exact ev_some | exact eq_of_heq HEq.rfl
@[simp] theorem ty_scr {a : List D} : D.ty (D.scr a) = "list" := by first | exact ev_some | exact eq_of_heq HEq.rfl
@[simp] theorem nsc_scr {a : List D} : notScr (D.scr a) = false := by first | exact ev_some | exact eq_of_heq HEq.rfl
section
variable {Z : W → Prop} {x : List Nat} {ds : List D} {lo hi : Option Int} {d e : D}
@[simp ↓] theorem ev_slS : Ev (gSl (.str x) lo hi) (tg Z) = Z (.v (.str (cutG x lo hi))) := by first | exact ev_some | exact eq_of_heq HEq.rfl
@[simp ↓] theorem ev_slL : Ev (gSl (.lst ds) lo hi) (tg Z) = Z (.l (cutG ds lo hi)) := by first | exact ev_some | exact eq_of_heq HEq.rfl
@[simp ↓] theorem ev_slT : Ev (gSl (.tup ds) lo hi) (tg Z) = Z (.v (.tup (cutG ds lo hi))) := by first | exact ev_some | exact eq_of_heq HEq.rfl
@[simp ↓] theorem ev_fz1 {A : List Opd × Env → Prop} {k : Nat} {os : List Opd} {env : Env} : Ev (fz1 k (os, env)) (tg A) = Ev os[k]? (tg fun o => match o with
    | .ref i => Ev (gt env i) (tg fun w => A (os.set k (.val (.v w.d)), env.set i (some (.v w.d))))
    | .val _ => A (os, env)) := by
  unfold fz1
  simp only
  cases os[k]? with
  | none => (first | rfl | exact ev_some | exact ev_none | exact ev_none.trans ev_none.symm | (rw [ev_some]; first | rfl | exact ev_some | (rw [ev_some]; done) | exact ev_none) | (rw [ev_map, ev_some]))
  | some o =>
    cases o with
    | val w => (first | rfl | exact ev_some | exact ev_none | exact ev_none.trans ev_none.symm | (rw [ev_some]; first | rfl | exact ev_some | (rw [ev_some]; done) | exact ev_none) | (rw [ev_map, ev_some]))
    | ref i => rw [ev_some]; simp only; rw [ev_map]
@[simp] theorem isTy_eq {a t : String} : isTy a t = (a == t || (a == "bool" && t == "int")) := by first | exact ev_some | exact eq_of_heq HEq.rfl
@[simp] theorem eqvs_nn : D.eqvs [] [] = true := by first | exact ev_some | exact eq_of_heq HEq.rfl
@[simp] theorem eqvs_nc : D.eqvs [] (d :: ds) = false := by first | exact ev_some | exact eq_of_heq HEq.rfl
@[simp] theorem eqvs_cn : D.eqvs (d :: ds) [] = false := by first | exact ev_some | exact eq_of_heq HEq.rfl
@[simp] theorem eqvs_cc {es : List D} : D.eqvs (d :: ds) (e :: es) = (D.eqv d e && D.eqvs ds es) := by first | exact ev_some | exact eq_of_heq HEq.rfl
@[simp] theorem eqvs_nil {ds : List D} : D.eqvs ds [] = ds.isEmpty := by cases ds <;> rfl
@[simp] theorem flat_str : D.flat (.str x) = true := by first | exact ev_some | exact eq_of_heq HEq.rfl
@[simp] theorem flat_int {i : Int} : D.flat (.int i) = true := by first | exact ev_some | exact eq_of_heq HEq.rfl
@[simp] theorem items_l : D.items (.lst ds) = some ds := by first | exact ev_some | exact eq_of_heq HEq.rfl
@[simp] theorem items_t : D.items (.tup ds) = some ds := by first | exact ev_some | exact eq_of_heq HEq.rfl
@[simp] theorem items_s : D.items (.str x) = some (x.map fun c => .str [c]) := by first | exact ev_some | exact eq_of_heq HEq.rfl
@[simp ↓] theorem ev_itl {P : List D → Prop} : Ev (D.items (.lst ds)) (tg P) = P ds := by first | exact ev_some | exact eq_of_heq HEq.rfl
@[simp ↓] theorem ev_itt {P : List D → Prop} : Ev (D.items (.tup ds)) (tg P) = P ds := by first | exact ev_some | exact eq_of_heq HEq.rfl
@[simp ↓] theorem ev_its {P : List D → Prop} : Ev (D.items (.str x)) (tg P) = P (x.map fun c => .str [c]) := by first | exact ev_some | exact eq_of_heq HEq.rfl
@[simp ↓] theorem ev_els {P : List D → Prop} : Ev (D.els (.lst ds)) (tg P) = P ds := by first | exact ev_some | exact eq_of_heq HEq.rfl
@[simp ↓] theorem ev_elt {P : List D → Prop} : Ev (D.els (.tup ds)) (tg P) = P ds := by first | exact ev_some | exact eq_of_heq HEq.rfl
@[simp ↓] theorem ev_all : Ev (gAll [.lst ds]) (tg Z) = Ev (mapO D.bl? ds) (tg fun bs => Z (.v (.bl (bs.all id)))) := ev_map
@[simp ↓] theorem ev_any : Ev (gAny [.lst ds]) (tg Z) = Ev (mapO D.bl? ds) (tg fun bs => Z (.v (.bl (bs.any id)))) := ev_map
@[simp ↓] theorem ev_join {y : List Nat} : Ev (gJoin (.str y) [d]) (tg Z) = Ev d.els (tg fun ds => Ev (mapO D.str? ds) (tg fun zs => Rq ((zs.map List.length).sum + zs.length * y.length ≤ sizeLine) (tg (Z (.v (.str (joinD y zs))))))) := by
  show Ev (d.els.bind fun ds => (mapO D.str? ds).bind fun zs => if (zs.map List.length).sum + zs.length * y.length ≤ sizeLine then some (W.v (.str (joinD y zs))) else none) (tg Z) = _
  (repeat' first | exact rfl | exact ev_some | exact ev_none | rw [ev_bind] | rw [ev_map] | rw [ev_rq] | rw [ev_ite] | refine ev_cg fun _ => ?_ | refine rq_cg ?_ | refine cnd_cg ?_ ?_)
theorem p62 : (2 : Int) ^ 62 = 4611686018427387904 := by decide
@[simp ↓] theorem ev_r1 {g : AV} {env : Env} {P : List D × Env → Prop} : Ev (iRange1 g env) (tg P) = Ev (g env) (tg fun p => match p.1 with
  | [o] => Ev (o.rd p.2) (tg fun d => match d with
    | .int n => Rq (n < 4611686018427387904 ∧ -4611686018427387904 ≤ n) (tg (P (rngD 0 n.toNat, p.2)))
    | _ => False)
  | _ => False) := by
  unfold iRange1
  rw [ev_bind]
  refine ev_cg fun p => ?_
  obtain ⟨os, e⟩ := p
  match os with
  | [] => (first | rfl | exact ev_some | exact ev_none | exact ev_none.trans ev_none.symm | (rw [ev_some]; first | rfl | exact ev_some | (rw [ev_some]; done) | exact ev_none) | (rw [ev_map, ev_some]))
  | [o] =>
    simp only
    rw [ev_bind]
    refine ev_cg fun d => ?_
    cases d <;> first | rfl | exact ev_none | (simp only; rw [p62]; exact ev_rqs)
  | _ :: _ :: _ => (first | rfl | exact ev_some | exact ev_none | exact ev_none.trans ev_none.symm | (rw [ev_some]; first | rfl | exact ev_some | (rw [ev_some]; done) | exact ev_none) | (rw [ev_map, ev_some]))
@[simp ↓] theorem ev_r2 {g : AV} {env : Env} {P : List D × Env → Prop} : Ev (iRange2 g env) (tg P) = Ev (g env) (tg fun p => match p.1 with
  | [o, o'] => Ev (o.rd p.2) (tg fun d => Ev (o'.rd p.2) (tg fun d' => match d, d' with
    | .int m, .int n => Rq (n < 4611686018427387904 ∧ -4611686018427387904 ≤ n ∧ m < 4611686018427387904 ∧ -4611686018427387904 ≤ m) (tg (P (rngD m (n - m).toNat, p.2)))
    | _, _ => False))
  | _ => False) := by
  unfold iRange2
  rw [ev_bind]
  refine ev_cg fun p => ?_
  obtain ⟨os, e⟩ := p
  match os with
  | [] => (first | rfl | exact ev_some | exact ev_none | exact ev_none.trans ev_none.symm | (rw [ev_some]; first | rfl | exact ev_some | (rw [ev_some]; done) | exact ev_none) | (rw [ev_map, ev_some]))
  | [_] => (first | rfl | exact ev_some | exact ev_none | exact ev_none.trans ev_none.symm | (rw [ev_some]; first | rfl | exact ev_some | (rw [ev_some]; done) | exact ev_none) | (rw [ev_map, ev_some]))
  | [o, o'] =>
    simp only
    rw [ev_bind]
    refine ev_cg fun d => ?_
    rw [ev_bind]
    refine ev_cg fun d' => ?_
    cases d <;> cases d' <;> first | rfl | exact ev_none | (simp only; rw [p62]; exact ev_rqs)
  | _ :: _ :: _ :: _ => (first | rfl | exact ev_some | exact ev_none | exact ev_none.trans ev_none.symm | (rw [ev_some]; first | rfl | exact ev_some | (rw [ev_some]; done) | exact ev_none) | (rw [ev_map, ev_some]))
@[simp ↓] theorem ev_mo0 {α β : Type} {f : α → Option β} {P : List β → Prop} : Ev (mapO f []) (tg P) = P [] := by first | exact ev_some | exact eq_of_heq HEq.rfl
@[simp ↓] theorem ev_mo1 {α β : Type} {f : α → Option β} {a : α} {as : List α} {P : List β → Prop} : Ev (mapO f (a :: as)) (tg P) = Ev (f a) (tg fun b => Ev (mapO f as) (tg fun bs => P (b :: bs))) := by
  show Ev ((f a).bind fun b => (mapO f as).map fun bs => b :: bs) (tg P) = _
  (repeat' first | exact rfl | exact ev_some | exact ev_none | rw [ev_bind] | rw [ev_map] | refine ev_cg fun _ => ?_)
@[simp ↓] theorem ev_str? {P : List Nat → Prop} : Ev (D.str? (.str x)) (tg P) = P x := by first | exact ev_some | exact eq_of_heq HEq.rfl
@[simp ↓] theorem ev_int? {P : Int → Prop} {i : Int} : Ev (D.int? (.int i)) (tg P) = P i := by first | exact ev_some | exact eq_of_heq HEq.rfl
@[simp ↓] theorem ev_bl? {P : Bool → Prop} {i : Bool} : Ev (D.bl? (.bl i)) (tg P) = P i := by first | exact ev_some | exact eq_of_heq HEq.rfl
@[simp ↓] theorem ev_max2 {i j : Int} : Ev (gMax2 [.int i, .int j]) (tg Z) = Z (.v (.int (if j > i then j else i))) := by first | exact ev_some | exact eq_of_heq HEq.rfl
@[simp ↓] theorem ev_min2 {i j : Int} : Ev (gMin2 [.int i, .int j]) (tg Z) = Z (.v (.int (if j < i then j else i))) := by first | exact ev_some | exact eq_of_heq HEq.rfl
theorem p63 : (2 : Int) ^ 63 = 9223372036854775808 := by decide
@[simp ↓] theorem ev_popAt {i : Int} {P : D × List D → Prop} : Ev (gPopAt ds [.int i]) (tg P) = Rq (-9223372036854775808 ≤ i ∧ i < 9223372036854775808) (tg (Ev (ixN ds.length i) (tg fun j => Ev ds[j]? (tg fun d => P (d, ds.eraseIdx j))))) := by
  show Ev (if -(2 ^ 63) ≤ i ∧ i < 2 ^ 63 then (ixN ds.length i).bind fun j => (ds[j]?).map fun d => (d, ds.eraseIdx j) else none) (tg P) = _
  rw [p63]
  (repeat' first | exact rfl | exact ev_some | exact ev_none | rw [ev_bind] | rw [ev_map] | rw [ev_rq] | refine ev_cg fun _ => ?_ | refine rq_cg ?_)
@[simp ↓] theorem ev_pop0 {P : D × List D → Prop} : Ev (gPop0 ds []) (tg P) = Ev ds[ds.length - 1]? (tg fun d => P (d, ds.dropLast)) := ev_map
@[simp ↓] theorem ev_ins {i : Int} {P : D × List D → Prop} : Ev (gInsert ds [.int i, d]) (tg P) = Rq (0 ≤ i ∧ i < 9223372036854775808 ∧ ds.length < sizeLine) (tg (P (.non, ds.take i.toNat ++ [d] ++ ds.drop i.toNat))) := by
  show Ev (if 0 ≤ i ∧ i < 2 ^ 63 ∧ ds.length < sizeLine then some (D.non, ds.take i.toNat ++ [d] ++ ds.drop i.toNat) else none) (tg P) = _
  rw [p63]
  exact ev_rqs
theorem mapO_map {α β γ : Type} {f : α → Option β} {g : γ → α} {h : γ → β} (e : ∀ c, f (g c) = some (h c)) : ∀ xs : List γ, mapO f (xs.map g) = some (xs.map h)
  | [] => rfl
  | x :: xs => by
    show ((f (g x)).bind fun b => (mapO f (xs.map g)).map fun bs => b :: bs) = _
    rw [e x, mapO_map e xs]; rfl
@[simp] theorem mapO_str (zs : List (List Nat)) : mapO D.str? (zs.map D.str) = some zs := by
  have := mapO_map (f := D.str?) (g := D.str) (h := id) (fun _ => rfl) zs
  simpa using this
@[simp] theorem mapO_bl {γ : Type} (g : γ → Bool) (zs : List γ) : mapO D.bl? (zs.map fun c => .bl (g c)) = some (zs.map g) := mapO_map (f := D.bl?) (g := fun c => D.bl (g c)) (h := g) (fun _ => rfl) zs
end
theorem cut_from {α : Type} (z : List α) (k : Nat) : cutG z (some (k : Int)) none = z.drop k := by
  unfold cutG
  rw [HT.sIx_nat, HT.sIx_none]
  by_cases h : k ≤ z.length
  · rw [Nat.min_eq_left h, List.take_of_length_le (by simp)]
  · rw [Nat.min_eq_right (by omega), List.drop_of_length_le (Nat.le_refl _), List.drop_of_length_le (by omega), List.take_nil]
theorem cut_to {α : Type} (z : List α) (k : Nat) : cutG z none (some (k : Int)) = z.take k := by
  unfold cutG
  rw [HT.sIx_nat, HT.sIx_none]
  by_cases h : k ≤ z.length
  · rw [Nat.min_eq_left h]; simp
  · rw [Nat.min_eq_right (by omega)]; simp [List.take_of_length_le (Nat.le_of_not_le h)]
@[simp] theorem cut_from1 {α : Type} (z : List α) : cutG z (some 1) none = z.drop 1 := cut_from z 1
@[simp] theorem cut_to1 {α : Type} (z : List α) : cutG z none (some 1) = z.take 1 := cut_to z 1
end PD

set_option Elab.async false
set_option linter.all false
set_option maxRecDepth 100000
set_option maxHeartbeats 0
namespace PD
open PySem PySem.Spec L2
open PyProof.Rows hiding St
abbrev top (i : Nat) : Stmt := PySem.Challenge.pw_linkpaths_k01_path_values.main.body.getD i (.Pass ⟨0, 0, 0, 0⟩)
def frees : List Str := ["isinstance", "str", "len", "all", "list", "tuple", "range", "bool", "int", "max"]
abbrev Frees (mg : Str → Option Value) : Prop := ∀ (i : Nat) (x : Str), frees[i]? = some x → mg x = none
section
variable {Pr : Program} {w : World} {K : PySem.W.Frag} {mg : Str → Option Value} {base : Heap}
/-! parts -/
def nparts : List Str := ["path", "text"]
theorem scparts : FnScope nparts ["path"] (defScope (top 5)) := ⟨rfl, rfl, rfl, by decide +kernel, rfl, by decide +kernel, by decide +kernel⟩
noncomputable def Sparts : SV := seqS (sSet 1 (cIf (bVal (cBin gEq (cSl (cVar 0) pNo (pAt (cConst (.int 1)))) (cConst (.str [47])))) (cSl (cVar 0) (pAt (cConst (.int 1))) pNo) (cVar 0)))
 (sRet [] (cIf (bVal (cBin gNe (cVar 1) (cConst (.str [])))) (cM "str" gSplit (cVar 1) (argsC (cConst (.str [47])) (argsN))) (cLst (argsN))))
noncomputable def Fparts : FnV := runB 2 1 false Sparts
theorem calparts (hm : mg "parts" = some (.ref (He.ga K "parts"))) (hF : ∃ fd, FnP K "parts" (top 5) (He.ga K "parts") fd) (fr : Frees mg) : Cal Pr w K mg base "parts" 1 1 Fparts := by
  refine cal_of (k := 0) (m := false) (N := nparts) (S := Sparts) hm hF scparts rfl (fun _ _ _ _ _ _ us hl => match us, hl with | [_], _ => rfl) fun cdv A outer s H E hr => ?_
  show PSs _ _ (tsOf K [] Sparts)
  unfold Sparts
  exact (pssD_cons (qset 1 (pe_ifD (qtcmp (eq_ok (hu0 hr)) (pe_slD (qn 0) po_noD (po_atD qi)) (qs [47])) (pe_slD (qn 0) (po_atD qi) po_noD) (qn 0)) scparts.nd)
 (pssD_one (psD_ret (pe_ifD (qtcmp (ne_ok (hu0 hr)) (qn 1) (qs [])) (qm (Or.inl rfl) PySem.F.plainAttrs_str PySem.F.slot_str_split PySem.F.type_str_split split_ok (qn 1) (ac (qs [47]) pad_nil)) (pe_lstD pad_nil)))))
/-! is_name -/
def nis_name : List Str := ["value", "letter"]
theorem scis_name : FnScope nis_name ["value"] (defScope (top 4)) := ⟨rfl, rfl, rfl, by decide +kernel, rfl, by decide +kernel, by decide +kernel⟩
noncomputable def Sis_name : SV := seqS (sIf (bOr (bNot (bVal (cIs "str" (cVar 0)))) (bNot (bVal (cChain gLe gLe (cConst (.int 1)) (cB gLen (argsC (cVar 0) (argsN))) (cConst (.int 3))))))
 (sRet [] (cConst (.bl false)))
 (sNil))
 (sRet [] (cB gAll (argsC (cLc (iSeq (cVar 0)) (gtName 1) (bYes) (cBin gIn (cVar 1) (cConst (.str [97, 98, 99, 100, 101, 102, 103, 104, 105, 106, 107, 108, 109, 110, 111, 112, 113, 114, 115, 116, 117, 118, 119, 120, 121, 122]))) [1]) (argsN))))
noncomputable def Fis_name : FnV := runB 2 1 false Sis_name
theorem calis_name (hm : mg "is_name" = some (.ref (He.ga K "is_name"))) (hF : ∃ fd, FnP K "is_name" (top 4) (He.ga K "is_name") fd) (fr : Frees mg) (c_LETTERS : ∃ t, mg "LETTERS" = some (.str ⟨([97, 98, 99, 100, 101, 102, 103, 104, 105, 106, 107, 108, 109, 110, 111, 112, 113, 114, 115, 116, 117, 118, 119, 120, 121, 122] : List Nat).toArray⟩ t)) (c_MOST_LETTERS : ∃ t, mg "MOST_LETTERS" = some (.int 3 t)) : Cal Pr w K mg base "is_name" 1 1 Fis_name := by
  refine cal_of (k := 0) (m := false) (N := nis_name) (S := Sis_name) hm hF scis_name rfl (fun _ _ _ _ _ _ us hl => match us, hl with | [_], _ => rfl) fun cdv A outer s H E hr => ?_
  show PSs _ _ (tsOf K [] Sis_name)
  unfold Sis_name
  exact (pssD_cons (psD_if (pw_orD (pt_notD (qtv (qis "str" (fr 0 _ rfl) (fr 1 _ rfl) (qn 0)))) (pw_or1 (pt_notD (qtchain le_ok le_ok qi (qbf len_ok (fr 2 _ rfl) (ac (qn 0) pad_nil)) (qgi c_MOST_LETTERS))))).pt
 (pssD_one (psD_ret qb))
 pssD_nil)
 (pssD_one (psD_ret (qbf (all_ok rfl) (fr 3 _ rfl) (ac (qlc [("letter", 1)] scis_name.nd (pi_seqD (qn 0)) (blkOk_by (N := nis_name) (sc := defScope (top 4)) (by decide +kernel)) (fun _ _ _ _ _ => (qgn 1 scis_name.nd)) (fun _ _ _ _ _ => pts_nilD) (fun _ _ _ _ _ => (qcmp (in_ok (hu1 hr)) (qn 1) (qgstr c_LETTERS)))) pad_nil)))))
/-! is_path -/
def nis_path : List Str := ["value", "found", "part"]
theorem scis_path : FnScope nis_path ["value"] (defScope (top 6)) := ⟨rfl, rfl, rfl, by decide +kernel, rfl, by decide +kernel, by decide +kernel⟩
noncomputable def Sis_path : SV := seqS (sIf (bOr (bNot (bVal (cIs "str" (cVar 0)))) (bVal (cBin gEq (cVar 0) (cConst (.str [])))))
 (sRet [] (cConst (.bl false)))
 (sNil))
 (seqS (sSet 1 (cCall false Fparts (argsC (cVar 0) (argsN))))
 (sRet [] (cAnd (cBin gLe (cB gLen (argsC (cVar 1) (argsN))) (cConst (.int 12))) (cB gAll (argsC (cLc (iSeq (cVar 1)) (gtName 2) (bYes) (cOr (cBin gIn (cVar 2) (cTup (argsC (cConst (.str [46])) (argsC (cConst (.str [46, 46])) (argsN))))) (cCall false Fis_name (argsC (cVar 2) (argsN)))) [2]) (argsN))))))
noncomputable def Fis_path : FnV := runB 3 1 false Sis_path
theorem calis_path (hm : mg "is_path" = some (.ref (He.ga K "is_path"))) (hF : ∃ fd, FnP K "is_path" (top 6) (He.ga K "is_path") fd) (fr : Frees mg) (c_MOST_PARTS : ∃ t, mg "MOST_PARTS" = some (.int 12 t)) (cis_name : Cal Pr w K mg base "is_name" 1 1 Fis_name) (cparts : Cal Pr w K mg base "parts" 1 1 Fparts) : Cal Pr w K mg base "is_path" 2 1 Fis_path := by
  refine cal_of (k := 1) (m := false) (N := nis_path) (S := Sis_path) hm hF scis_path rfl (fun _ _ _ _ _ _ us hl => match us, hl with | [_], _ => rfl) fun cdv A outer s H E hr => ?_
  show PSs _ _ (tsOf K [] Sis_path)
  unfold Sis_path
  exact (pssD_cons (psD_if (pw_orD (pt_notD (qtv (qis "str" (fr 0 _ rfl) (fr 1 _ rfl) (qn 0)))) (pw_or1 (qtcmp (eq_ok (hu0 hr)) (qn 0) (qs [])))).pt
 (pssD_one (psD_ret qb))
 pssD_nil)
 (pssD_cons (qset 1 (qcall false cparts hr (ac (qn 0) pad_nil)) scis_path.nd)
 (pssD_one (psD_ret (pe_andD (qcmp le_ok (qbf len_ok (fr 2 _ rfl) (ac (qn 1) pad_nil)) (qgi c_MOST_PARTS)) (pe_one (qbf (all_ok rfl) (fr 3 _ rfl) (ac (qlc [("part", 2)] scis_path.nd (pi_seqD (qn 1)) (blkOk_by (N := nis_path) (sc := defScope (top 6)) (by decide +kernel)) (fun _ _ _ _ _ => (qgn 2 scis_path.nd)) (fun _ _ _ _ _ => pts_nilD) (fun _ _ _ _ _ => (pe_orD (qcmp (in_ok (hu1 hr)) (qn 2) (pe_tupD (ac (qs [46]) (ac (qs [46, 46]) pad_nil)))) (pe_one (qcall false cis_name hr (ac (qn 2) pad_nil)))))) pad_nil))))))))
/-! _law_draw -/
def n_law_draw : List Str := ["tape", "many", "prime", "cell", "found"]
theorem sc_law_draw : FnScope n_law_draw ["tape", "many"] (defScope (top 8)) := ⟨rfl, rfl, rfl, by decide +kernel, rfl, by decide +kernel, by decide +kernel⟩
noncomputable def S_law_draw : SV := seqS (sSet 2 (cConst (.int 2305843009213693951)))
 (seqS (sIf (bVal (cBin gLt (cBin gIx (cVar 0) (cConst (.int 2))) (cVar 1)))
 (seqS (sSet 3 (cConst (.int 0)))
 (seqS (sIf (bVal (cBin gGt (cB gLen (argsC (cBin gIx (cVar 0) (cConst (.int 0))) (argsN))) (cConst (.int 0))))
 (sSet 3 (cBin gIx (cBin gIx (cVar 0) (cConst (.int 0))) (cBin gMod (cBin gIx (cVar 0) (cConst (.int 1))) (cB gLen (argsC (cBin gIx (cVar 0) (cConst (.int 0))) (argsN))))))
 (sNil))
 (seqS (sIf (bOr (bVal (cBin gGe (cBin gIx (cVar 0) (cConst (.int 1))) (cB gLen (argsC (cBin gIx (cVar 0) (cConst (.int 0))) (argsN))))) (bVal (cBin gLt (cVar 3) (cBin gPow (cConst (.int 10)) (cConst (.int 18))))))
 (seqS (sSet 3 (cBin gMod (cBin gAdd (cVar 3) (cBin gMul (cConst (.int 1000003)) (cBin gIx (cVar 0) (cConst (.int 1))))) (cVar 2)))
 (seqS (sSet 3 (cBin gMod (cBin gAdd (cBin gAdd (cBin gMul (cVar 3) (cVar 3)) (cBin gMul (cConst (.int 1181783497276652981)) (cVar 3))) (cConst (.int 2049848353892358983))) (cVar 2)))
 (sSet 3 (cBin gMod (cBin gAdd (cBin gMul (cVar 3) (cVar 3)) (cConst (.int 1442695040888963407))) (cVar 2)))))
 (sNil))
 (seqS (sPut (cBin gAdd (cBin gIx (cVar 0) (cConst (.int 1))) (cConst (.int 1))) (cVar 0) (cConst (.int 1)))
 (sPut (cVar 3) (cVar 0) (cConst (.int 2)))))))
 (sNil))
 (seqS (sSet 4 (cBin gMod (cBin gIx (cVar 0) (cConst (.int 2))) (cVar 1)))
 (seqS (sPut (cBin gFdiv (cBin gIx (cVar 0) (cConst (.int 2))) (cVar 1)) (cVar 0) (cConst (.int 2)))
 (sRet [0] (cVar 4)))))
noncomputable def F_law_draw : FnV := runB 5 2 true S_law_draw
theorem cal_law_draw (hm : mg "_law_draw" = some (.ref (He.ga K "_law_draw"))) (hF : ∃ fd, FnP K "_law_draw" (top 8) (He.ga K "_law_draw") fd) (fr : Frees mg) : Cal Pr w K mg base "_law_draw" 1 2 F_law_draw := by
  refine cal_of (k := 0) (m := true) (N := n_law_draw) (S := S_law_draw) hm hF sc_law_draw rfl (fun _ _ _ _ _ _ us hl => match us, hl with | [_, _], _ => rfl) fun cdv A outer s H E hr => ?_
  show PSs _ _ (tsOf K [0] S_law_draw)
  unfold S_law_draw
  exact (pssD_cons (qset 2 qi sc_law_draw.nd)
 (pssD_cons (psD_if (qtcmp lt_ok (qix hr (qn 0) qi) (qn 1))
 (pssD_cons (qset 3 qi sc_law_draw.nd)
 (pssD_cons (psD_if (qtcmp gt_ok (qbf len_ok (fr 2 _ rfl) (ac (qix hr (qn 0) qi) pad_nil)) qi)
 (pssD_one (qset 3 (qix hr (qix hr (qn 0) qi) (pe_bin mod_ok (qix hr (qn 0) qi) (qbf len_ok (fr 2 _ rfl) (ac (qix hr (qn 0) qi) pad_nil)))) sc_law_draw.nd))
 pssD_nil)
 (pssD_cons (psD_if (pw_orD (qtcmp ge_ok (qix hr (qn 0) qi) (qbf len_ok (fr 2 _ rfl) (ac (qix hr (qn 0) qi) pad_nil))) (pw_or1 (qtcmp lt_ok (qn 3) (pe_bin pow_ok qi qi)))).pt
 (pssD_cons (qset 3 (pe_bin mod_ok (pe_bin add_ok (qn 3) (pe_bin mul_ok qi (qix hr (qn 0) qi))) (qn 2)) sc_law_draw.nd)
 (pssD_cons (qset 3 (pe_bin mod_ok (pe_bin add_ok (pe_bin add_ok (pe_bin mul_ok (qn 3) (qn 3)) (pe_bin mul_ok qi (qn 3))) qi) (qn 2)) sc_law_draw.nd)
 (pssD_one (qset 3 (pe_bin mod_ok (pe_bin add_ok (pe_bin mul_ok (qn 3) (qn 3)) qi) (qn 2)) sc_law_draw.nd))))
 pssD_nil)
 (pssD_cons (qput hr (pe_bin add_ok (qix hr (qn 0) qi) qi) (qn 0) qi)
 (pssD_one (qput hr (qn 3) (qn 0) qi))))))
 pssD_nil)
 (pssD_cons (qset 4 (pe_bin mod_ok (qix hr (qn 0) qi) (qn 1)) sc_law_draw.nd)
 (pssD_cons (qput hr (pe_bin fdiv_ok (qix hr (qn 0) qi) (qn 1)) (qn 0) qi)
 (pssD_one (psD_ret (qn 4)))))))
/-! _law_like -/
def n_law_like : List Str := ["one", "two", "k"]
theorem sc_law_like : FnScope n_law_like ["one", "two"] (defScope (top 10)) := ⟨rfl, rfl, rfl, by decide +kernel, rfl, by decide +kernel, by decide +kernel⟩
noncomputable def S_law_like (self : FnV) : SV := seqS (sIf (bVal (cIs2 "list" "tuple" (cVar 0)))
 (seqS (sIf (bOr (bVal (cBin gNe (cIs "list" (cVar 0)) (cIs "list" (cVar 1)))) (bVal (cBin gNe (cIs "tuple" (cVar 0)) (cIs "tuple" (cVar 1)))))
 (sRet [] (cConst (.bl false)))
 (sNil))
 (seqS (sIf (bVal (cBin gNe (cB gLen (argsC (cVar 0) (argsN))) (cB gLen (argsC (cVar 1) (argsN)))))
 (sRet [] (cConst (.bl false)))
 (sNil))
 (sRet [] (cBin gEq (cLc (iRange1 (argsC (cB gLen (argsC (cVar 0) (argsN))) (argsN))) (gtName 2) (bNot (bVal (cCall false self (argsC (cBin gIx (cVar 0) (cVar 2)) (argsC (cBin gIx (cVar 1) (cVar 2)) (argsN)))))) (cVar 2) [2]) (cLst (argsN))))))
 (sNil))
 (seqS (sIf (bVal (cIs2 "list" "tuple" (cVar 1)))
 (sRet [] (cConst (.bl false)))
 (sNil))
 (sRet [] (cAnd (cBin gEq (cIs "bool" (cVar 0)) (cIs "bool" (cVar 1))) (cBin gEq (cVar 0) (cVar 1)))))
noncomputable def F_law_like : Nat → FnV
  | 0 => fun _ => none
  | k + 1 => runB 3 2 false (S_law_like (F_law_like k))
theorem cal_law_like (hm : mg "_law_like" = some (.ref (He.ga K "_law_like"))) (hF : ∃ fd, FnP K "_law_like" (top 10) (He.ga K "_law_like") fd) (fr : Frees mg) : ∀ k, Cal Pr w K mg base "_law_like" (0 + k) 2 (F_law_like k)
  | 0 => cal_none (ps := ["one", "two"]) hm hF (fun _ _ _ _ _ _ us hl => match us, hl with | [_, _], _ => rfl)
  | k + 1 => by
    have ih := cal_law_like hm hF fr   k
    refine cal_of (k := 0 + k) (m := false) (N := n_law_like) (S := S_law_like (F_law_like k)) hm hF sc_law_like rfl (fun _ _ _ _ _ _ us hl => match us, hl with | [_, _], _ => rfl) fun cdv A outer s H E hr => ?_
    show PSs _ _ (tsOf K [] (S_law_like (F_law_like k)))
    unfold S_law_like
    generalize F_law_like k = self at ih ⊢
    exact (pssD_cons (psD_if (qtv (qis2 "list" "tuple" (fr 0 _ rfl) (fr 4 _ rfl) (fr 5 _ rfl) (qn 0)))
 (pssD_cons (psD_if (pw_orD (qtcmp (ne_ok (hu0 hr)) (qis "list" (fr 0 _ rfl) (fr 4 _ rfl) (qn 0)) (qis "list" (fr 0 _ rfl) (fr 4 _ rfl) (qn 1))) (pw_or1 (qtcmp (ne_ok (hu0 hr)) (qis "tuple" (fr 0 _ rfl) (fr 5 _ rfl) (qn 0)) (qis "tuple" (fr 0 _ rfl) (fr 5 _ rfl) (qn 1))))).pt
 (pssD_one (psD_ret qb))
 pssD_nil)
 (pssD_cons (psD_if (qtcmp (ne_ok (hu0 hr)) (qbf len_ok (fr 2 _ rfl) (ac (qn 0) pad_nil)) (qbf len_ok (fr 2 _ rfl) (ac (qn 1) pad_nil)))
 (pssD_one (psD_ret qb))
 pssD_nil)
 (pssD_one (psD_ret (qcmp (eq_ok (hu0 hr)) (qlc [("k", 2)] sc_law_like.nd (qr1 (fr 6 _ rfl) (ac (qbf len_ok (fr 2 _ rfl) (ac (qn 0) pad_nil)) pad_nil)) (blkOk_by (N := n_law_like) (sc := defScope (top 10)) (by decide +kernel)) (fun _ _ _ _ _ => (qgn 2 sc_law_like.nd)) (fun _ _ _ _ _ => (pts_oneD (pt_notD (qtv (qcall false ih hr (ac (qix hr (qn 0) (qn 2)) (ac (qix hr (qn 1) (qn 2)) pad_nil))))))) (fun _ _ _ _ _ => (qn 2))) (pe_lstD pad_nil))))))
 pssD_nil)
 (pssD_cons (psD_if (qtv (qis2 "list" "tuple" (fr 0 _ rfl) (fr 4 _ rfl) (fr 5 _ rfl) (qn 1)))
 (pssD_one (psD_ret qb))
 pssD_nil)
 (pssD_one (psD_ret (pe_andD (qcmp (eq_ok (hu0 hr)) (qis "bool" (fr 0 _ rfl) (fr 7 _ rfl) (qn 0)) (qis "bool" (fr 0 _ rfl) (fr 7 _ rfl) (qn 1))) (pe_one (qcmp (eq_ok (hu0 hr)) (qn 0) (qn 1))))))))
/-! _law_whole -/
def n_law_whole : List Str := ["item"]
theorem sc_law_whole : FnScope n_law_whole ["item"] (defScope (top 9)) := ⟨rfl, rfl, rfl, by decide +kernel, rfl, by decide +kernel, by decide +kernel⟩
noncomputable def S_law_whole : SV := sRet [] (cAnd (cIs "int" (cVar 0)) (cNot (cIs "bool" (cVar 0))))
noncomputable def F_law_whole : FnV := runB 1 1 false S_law_whole
theorem cal_law_whole (hm : mg "_law_whole" = some (.ref (He.ga K "_law_whole"))) (hF : ∃ fd, FnP K "_law_whole" (top 9) (He.ga K "_law_whole") fd) (fr : Frees mg) : Cal Pr w K mg base "_law_whole" 1 1 F_law_whole := by
  refine cal_of (k := 0) (m := false) (N := n_law_whole) (S := S_law_whole) hm hF sc_law_whole rfl (fun _ _ _ _ _ _ us hl => match us, hl with | [_], _ => rfl) fun cdv A outer s H E hr => ?_
  show PSs _ _ (tsOf K [] S_law_whole)
  unfold S_law_whole
  exact (pssD_one (psD_ret (pe_andD (qis "int" (fr 0 _ rfl) (fr 8 _ rfl) (qn 0)) (pe_one (pe_notD (qis "bool" (fr 0 _ rfl) (fr 7 _ rfl) (qn 0)))))))
/-! _law_any -/
def n_law_any : List Str := ["tape", "deep", "course", "some", "k"]
theorem sc_law_any : FnScope n_law_any ["tape", "deep"] (defScope (top 12)) := ⟨rfl, rfl, rfl, by decide +kernel, rfl, by decide +kernel, by decide +kernel⟩
noncomputable def S_law_any (self : FnV) : SV := seqS (sSet 2 (cCall true F_law_draw (argsC (cVar 0) (argsC (cConst (.int 13)) (argsN)))))
 (seqS (sIf (bAnd (bVal (cBin gLt (cVar 2) (cConst (.int 4)))) (bVal (cBin gGt (cVar 1) (cConst (.int 0)))))
 (seqS (sSet 3 (cLc (iRange1 (argsC (cCall true F_law_draw (argsC (cVar 0) (argsC (cConst (.int 4)) (argsN)))) (argsN))) (gtName 4) (bYes) (cCall true self (argsC (cVar 0) (argsC (cBin gSub (cVar 1) (cConst (.int 1))) (argsN)))) [4]))
 (sRet [0] (cBin gIx (cLst (argsC (cVar 3) (argsC (cB gTuple (argsC (cVar 3) (argsN))) (argsC (cB gTuple (argsC (cVar 3) (argsN))) (argsC (cB gTuple (argsC (cVar 3) (argsN))) (argsN)))))) (cVar 2))))
 (sNil))
 (seqS (sIf (bVal (cBin gLt (cVar 2) (cConst (.int 8))))
 (sRet [0] (cBin gIx (cLst (argsC (cBin gSub (cCall true F_law_draw (argsC (cVar 0) (argsC (cConst (.int 12)) (argsN)))) (cConst (.int 2))) (argsC (cCall true F_law_draw (argsC (cVar 0) (argsC (cBin gPow (cConst (.int 10)) (cConst (.int 12))) (argsN)))) (argsC (cConst (.int 0)) (argsC (cConst (.int 3)) (argsN)))))) (cB gMax2 (argsC (cConst (.int 0)) (argsC (cBin gSub (cVar 2) (cConst (.int 4))) (argsN))))))
 (sNil))
 (seqS (sSet 3 (cLst (argsC (cConst (.str [])) (argsC (cConst (.str [32])) (argsC (cConst (.str [97])) (argsC (cConst (.str [47])) (argsC (cConst (.str [47, 97])) (argsC (cConst (.str [97, 47, 47, 98])) (argsC (cConst (.str [47, 97, 10, 98])) (argsN))))))))))
 (sRet [0] (cBin gIx (cLst (argsC (cConst (.bl true)) (argsC (cConst (.bl false)) (argsC (cConst .non) (argsC (cBin gIx (cVar 3) (cCall true F_law_draw (argsC (cVar 0) (argsC (cConst (.int 7)) (argsN))))) (argsC (cTup (argsC (cConst (.int 1)) (argsC (cConst (.int 2)) (argsN)))) (argsN))))))) (cBin gSub (cVar 2) (cConst (.int 8))))))))
noncomputable def F_law_any : Nat → FnV
  | 0 => fun _ => none
  | k + 1 => runB 5 2 true (S_law_any (F_law_any k))
theorem cal_law_any (hm : mg "_law_any" = some (.ref (He.ga K "_law_any"))) (hF : ∃ fd, FnP K "_law_any" (top 12) (He.ga K "_law_any") fd) (fr : Frees mg) (c_law_draw : Cal Pr w K mg base "_law_draw" 1 2 F_law_draw) : ∀ k, Cal Pr w K mg base "_law_any" (1 + k) 2 (F_law_any k)
  | 0 => cal_none (ps := ["tape", "deep"]) hm hF (fun _ _ _ _ _ _ us hl => match us, hl with | [_, _], _ => rfl)
  | k + 1 => by
    have ih := cal_law_any hm hF fr  c_law_draw k
    refine cal_of (k := 1 + k) (m := true) (N := n_law_any) (S := S_law_any (F_law_any k)) hm hF sc_law_any rfl (fun _ _ _ _ _ _ us hl => match us, hl with | [_, _], _ => rfl) fun cdv A outer s H E hr => ?_
    show PSs _ _ (tsOf K [0] (S_law_any (F_law_any k)))
    unfold S_law_any
    generalize F_law_any k = self at ih ⊢
    exact (pssD_cons (qset 2 (qcall true c_law_draw hr (ac (qn 0) (ac qi pad_nil))) sc_law_any.nd)
 (pssD_cons (psD_if (pw_andD (qtcmp lt_ok (qn 2) qi) (pw_and1 (qtcmp gt_ok (qn 1) qi))).pt
 (pssD_cons (qslc 3 [("k", 4)] sc_law_any.nd (qr1 (fr 6 _ rfl) (ac (qcall true c_law_draw hr (ac (qn 0) (ac qi pad_nil))) pad_nil)) (blkOk_by (N := n_law_any) (sc := defScope (top 12)) (by decide +kernel)) (fun _ _ _ _ _ => (qgn 4 sc_law_any.nd)) (fun _ _ _ _ _ => pts_nilD) (fun _ _ _ _ _ => (qcall true ih hr (ac (qn 0) (ac (pe_bin sub_ok (qn 1) qi) pad_nil)))) (hsw := sw_true rfl rfl rfl (by decide +kernel)))
 (pssD_one (psD_ret (qix hr (pe_lstD (ac (qn 3) (ac (qbt tuple_ok (fr 5 _ rfl) (ac (qn 3) pad_nil)) (ac (qbt tuple_ok (fr 5 _ rfl) (ac (qn 3) pad_nil)) (ac (qbt tuple_ok (fr 5 _ rfl) (ac (qn 3) pad_nil)) pad_nil))))) (qn 2)))))
 pssD_nil)
 (pssD_cons (psD_if (qtcmp lt_ok (qn 2) qi)
 (pssD_one (psD_ret (qix hr (pe_lstD (ac (pe_bin sub_ok (qcall true c_law_draw hr (ac (qn 0) (ac qi pad_nil))) qi) (ac (qcall true c_law_draw hr (ac (qn 0) (ac (pe_bin pow_ok qi qi) pad_nil))) (ac qi (ac qi pad_nil))))) (qbf (max2_ok rfl) (fr 9 _ rfl) (ac qi (ac (pe_bin sub_ok (qn 2) qi) pad_nil))))))
 pssD_nil)
 (pssD_cons (qset 3 (pe_lstD (ac (qs []) (ac (qs [32]) (ac (qs [97]) (ac (qs [47]) (ac (qs [47, 97]) (ac (qs [97, 47, 47, 98]) (ac (qs [47, 97, 10, 98]) pad_nil)))))))) sc_law_any.nd)
 (pssD_one (psD_ret (qix hr (pe_lstD (ac qb (ac qb (ac q0 (ac (qix hr (qn 3) (qcall true c_law_draw hr (ac (qn 0) (ac qi pad_nil)))) (ac (pe_tupD (ac qi (ac qi pad_nil))) pad_nil)))))) (pe_bin sub_ok (qn 2) qi))))))))
/-! _law_spoilt -/
def n_law_spoilt : List Str := ["tape", "item", "k", "rest", "course", "at"]
theorem sc_law_spoilt : FnScope n_law_spoilt ["tape", "item"] (defScope (top 11)) := ⟨rfl, rfl, rfl, by decide +kernel, rfl, by decide +kernel, by decide +kernel⟩
noncomputable def S_law_spoilt_s1 (self : FnV) : SV := sRet [0] (cIf (bVal (cIs "tuple" (cVar 1))) (cB gTuple (argsC (cVar 3) (argsN))) (cVar 3))
noncomputable def S_law_spoilt_s2 (self : FnV) : SV := sRet [0] (cCall true (F_law_any 4) (argsC (cVar 0) (argsC (cConst (.int 2)) (argsN))))
noncomputable def S_law_spoilt_s3 (self : FnV) : SV := seqS (sIf (bAnd (bVal (cIs2 "tuple" "list" (cVar 1))) (bVal (cBin gEq (cCall true F_law_draw (argsC (cVar 0) (argsC (cConst (.int 2)) (argsN)))) (cConst (.int 0)))))
 (sRet [0] (cIf (bVal (cIs "tuple" (cVar 1))) (cB gList (argsC (cVar 1) (argsN))) (cB gTuple (argsC (cVar 1) (argsN)))))
 (sNil))
 (S_law_spoilt_s2 self)
noncomputable def S_law_spoilt_s4 (self : FnV) : SV := seqS (sIf (bAnd (bVal (cIs "str" (cVar 1))) (bVal (cBin gGt (cCall true F_law_draw (argsC (cVar 0) (argsC (cConst (.int 3)) (argsN)))) (cConst (.int 0)))))
 (seqS (sSet 5 (cCall true F_law_draw (argsC (cVar 0) (argsC (cBin gAdd (cB gLen (argsC (cVar 1) (argsN))) (cConst (.int 1))) (argsN)))))
 (sRet [0] (cBin gAdd (cBin gAdd (cSl (cVar 1) pNo (pAt (cVar 5))) (cBin gIx (cLst (argsC (cConst (.str [32])) (argsC (cConst (.str [122])) (argsC (cConst (.str [65])) (argsC (cConst (.str [124])) (argsC (cConst (.str [97, 98, 99, 100, 101, 102, 103, 104])) (argsC (cConst (.str [])) (argsN)))))))) (cCall true F_law_draw (argsC (cVar 0) (argsC (cConst (.int 6)) (argsN)))))) (cSl (cVar 1) (pAt (cVar 5)) pNo))))
 (sNil))
 (S_law_spoilt_s3 self)
noncomputable def S_law_spoilt_s5 (self : FnV) : SV := seqS (sIf (bAnd (bVal (cCall false F_law_whole (argsC (cVar 1) (argsN)))) (bVal (cBin gGt (cCall true F_law_draw (argsC (cVar 0) (argsC (cConst (.int 6)) (argsN)))) (cConst (.int 0)))))
 (sRet [0] (cBin gAdd (cVar 1) (cBin gIx (cLst (argsC (cConst (.int 1)) (argsC (cNeg (cConst (.int 1))) (argsC (cConst (.int 2)) (argsC (cNeg (cConst (.int 2))) (argsC (cConst (.int 9)) (argsC (cConst (.int 1000)) (argsN)))))))) (cCall true F_law_draw (argsC (cVar 0) (argsC (cConst (.int 6)) (argsN)))))))
 (sNil))
 (S_law_spoilt_s4 self)
noncomputable def S_law_spoilt (self : FnV) : SV := seqS (sIf (bAnd (bVal (cIs2 "tuple" "list" (cVar 1))) (bAnd (bVal (cBin gGt (cB gLen (argsC (cVar 1) (argsN))) (cConst (.int 0)))) (bVal (cBin gGt (cCall true F_law_draw (argsC (cVar 0) (argsC (cConst (.int 7)) (argsN)))) (cConst (.int 0))))))
 (seqS (sSet 2 (cCall true F_law_draw (argsC (cVar 0) (argsC (cB gLen (argsC (cVar 1) (argsN))) (argsN)))))
 (seqS (sSet 3 (cB gList (argsC (cVar 1) (argsN))))
 (seqS (sSet 4 (cCall true F_law_draw (argsC (cVar 0) (argsC (cConst (.int 12)) (argsN)))))
 (seqS (sIf (bVal (cBin gLt (cVar 4) (cConst (.int 8))))
 (sPut (cCall true self (argsC (cVar 0) (argsC (cBin gIx (cVar 3) (cVar 2)) (argsN)))) (cVar 3) (cVar 2))
 (sIf (bVal (cBin gEq (cVar 4) (cConst (.int 8))))
 (sExpr (cMut gPopAt (cVar 3) (argsC (cVar 2) (argsN))))
 (sIf (bVal (cBin gEq (cVar 4) (cConst (.int 9))))
 (sExpr (cMut gInsert (cVar 3) (argsC (cVar 2) (argsC (cBin gIx (cVar 3) (cCall true F_law_draw (argsC (cVar 0) (argsC (cB gLen (argsC (cVar 3) (argsN))) (argsN))))) (argsN)))))
 (sIf (bVal (cBin gEq (cVar 4) (cConst (.int 10))))
 (sSet 3 (cRev (cVar 3)))
 (sExpr (cMut gInsert (cVar 3) (argsC (cVar 2) (argsC (cCall true (F_law_any 4) (argsC (cVar 0) (argsC (cConst (.int 1)) (argsN)))) (argsN)))))))))
 (S_law_spoilt_s1 self)))))
 (sNil))
 (S_law_spoilt_s5 self)
noncomputable def F_law_spoilt : Nat → FnV
  | 0 => fun _ => none
  | k + 1 => runB 6 2 true (S_law_spoilt (F_law_spoilt k))
theorem cal_law_spoilt (hm : mg "_law_spoilt" = some (.ref (He.ga K "_law_spoilt"))) (hF : ∃ fd, FnP K "_law_spoilt" (top 11) (He.ga K "_law_spoilt") fd) (fr : Frees mg) (c_law_draw : Cal Pr w K mg base "_law_draw" 1 2 F_law_draw) (c_law_whole : Cal Pr w K mg base "_law_whole" 1 1 F_law_whole) (c_law_any : Cal Pr w K mg base "_law_any" 5 2 (F_law_any 4)) : ∀ k, Cal Pr w K mg base "_law_spoilt" (5 + k) 2 (F_law_spoilt k)
  | 0 => cal_none (ps := ["tape", "item"]) hm hF (fun _ _ _ _ _ _ us hl => match us, hl with | [_, _], _ => rfl)
  | k + 1 => by
    have ih := cal_law_spoilt hm hF fr  c_law_draw c_law_whole c_law_any k
    refine cal_of (k := 5 + k) (m := true) (N := n_law_spoilt) (S := S_law_spoilt (F_law_spoilt k)) hm hF sc_law_spoilt rfl (fun _ _ _ _ _ _ us hl => match us, hl with | [_, _], _ => rfl) fun cdv A outer s H E hr => ?_
    show PSs _ _ (tsOf K [0] (S_law_spoilt (F_law_spoilt k)))
    unfold S_law_spoilt
    generalize F_law_spoilt k = self at ih ⊢
    exact (pssD_cons (psD_if (pw_andD (qtv (qis2 "tuple" "list" (fr 0 _ rfl) (fr 5 _ rfl) (fr 4 _ rfl) (qn 1))) (pw_andD (qtcmp gt_ok (qbf len_ok (fr 2 _ rfl) (ac (qn 1) pad_nil)) qi) (pw_and1 (qtcmp gt_ok (qcall true c_law_draw hr (ac (qn 0) (ac qi pad_nil))) qi)))).pt
 (pssD_cons (qset 2 (qcall true c_law_draw hr (ac (qn 0) (ac (qbf len_ok (fr 2 _ rfl) (ac (qn 1) pad_nil)) pad_nil))) sc_law_spoilt.nd)
 (pssD_cons (qset 3 (qbt (list_ok rfl) (fr 4 _ rfl) (ac (qn 1) pad_nil)) sc_law_spoilt.nd)
 (pssD_cons (qset 4 (qcall true c_law_draw hr (ac (qn 0) (ac qi pad_nil))) sc_law_spoilt.nd)
 (pssD_cons (psD_if (qtcmp lt_ok (qn 4) qi)
 (pssD_one (qput hr (qcall true ih hr (ac (qn 0) (ac (qix hr (qn 3) (qn 2)) pad_nil))) (qn 3) (qn 2)))
 (pssD_one (psD_if (qtcmp (eq_ok (hu0 hr)) (qn 4) qi)
 (pssD_one (qexpr (qmut PySem.F.slot_list_pop PySem.F.type_list_pop popAt_ok (qn 3) (ac (qn 2) pad_nil))))
 (pssD_one (psD_if (qtcmp (eq_ok (hu0 hr)) (qn 4) qi)
 (pssD_one (qexpr (qmut PySem.F.slot_list_insert PySem.F.type_list_insert insert_ok (qn 3) (ac (qn 2) (ac (qix hr (qn 3) (qcall true c_law_draw hr (ac (qn 0) (ac (qbf len_ok (fr 2 _ rfl) (ac (qn 3) pad_nil)) pad_nil)))) pad_nil)))))
 (pssD_one (psD_if (qtcmp (eq_ok (hu0 hr)) (qn 4) qi)
 (pssD_one (qset 3 (pe_revD (qn 3)) sc_law_spoilt.nd))
 (pssD_one (qexpr (qmut PySem.F.slot_list_insert PySem.F.type_list_insert insert_ok (qn 3) (ac (qn 2) (ac (qcall true c_law_any hr (ac (qn 0) (ac qi pad_nil))) pad_nil))))))))))))
 (pssD_one (psD_ret (pe_ifD (qtv (qis "tuple" (fr 0 _ rfl) (fr 5 _ rfl) (qn 1))) (qbt tuple_ok (fr 5 _ rfl) (ac (qn 3) pad_nil)) (qn 3))))))))
 pssD_nil)
 (pssD_cons (psD_if (pw_andD (qtv (qcall false c_law_whole hr (ac (qn 1) pad_nil))) (pw_and1 (qtcmp gt_ok (qcall true c_law_draw hr (ac (qn 0) (ac qi pad_nil))) qi))).pt
 (pssD_one (psD_ret (pe_bin add_ok (qn 1) (qix hr (pe_lstD (ac qi (ac (pe_negD qi) (ac qi (ac (pe_negD qi) (ac qi (ac qi pad_nil))))))) (qcall true c_law_draw hr (ac (qn 0) (ac qi pad_nil)))))))
 pssD_nil)
 (pssD_cons (psD_if (pw_andD (qtv (qis "str" (fr 0 _ rfl) (fr 1 _ rfl) (qn 1))) (pw_and1 (qtcmp gt_ok (qcall true c_law_draw hr (ac (qn 0) (ac qi pad_nil))) qi))).pt
 (pssD_cons (qset 5 (qcall true c_law_draw hr (ac (qn 0) (ac (pe_bin add_ok (qbf len_ok (fr 2 _ rfl) (ac (qn 1) pad_nil)) qi) pad_nil))) sc_law_spoilt.nd)
 (pssD_one (psD_ret (pe_bin add_ok (pe_bin add_ok (pe_slD (qn 1) po_noD (po_atD (qn 5))) (qix hr (pe_lstD (ac (qs [32]) (ac (qs [122]) (ac (qs [65]) (ac (qs [124]) (ac (qs [97, 98, 99, 100, 101, 102, 103, 104]) (ac (qs []) pad_nil))))))) (qcall true c_law_draw hr (ac (qn 0) (ac qi pad_nil))))) (pe_slD (qn 1) (po_atD (qn 5)) po_noD)))))
 pssD_nil)
 (pssD_cons (psD_if (pw_andD (qtv (qis2 "tuple" "list" (fr 0 _ rfl) (fr 5 _ rfl) (fr 4 _ rfl) (qn 1))) (pw_and1 (qtcmp (eq_ok (hu0 hr)) (qcall true c_law_draw hr (ac (qn 0) (ac qi pad_nil))) qi))).pt
 (pssD_one (psD_ret (pe_ifD (qtv (qis "tuple" (fr 0 _ rfl) (fr 5 _ rfl) (qn 1))) (qbt (list_ok rfl) (fr 4 _ rfl) (ac (qn 1) pad_nil)) (qbt tuple_ok (fr 5 _ rfl) (ac (qn 1) pad_nil)))))
 pssD_nil)
 (pssD_one (psD_ret (qcall true c_law_any hr (ac (qn 0) (ac qi pad_nil)))))))))
/-! _law_split -/
def n_law_split : List Str := ["path", "found", "own", "sign"]
theorem sc_law_split : FnScope n_law_split ["path"] (defScope (top 13)) := ⟨rfl, rfl, rfl, by decide +kernel, rfl, by decide +kernel, by decide +kernel⟩
noncomputable def S_law_split : SV := seqS (sPar [1, 2] (argsC (cLst (argsN)) (argsC (cConst (.str [])) (argsN))))
 (seqS (sFor (iSeq (cIf (bVal (cBin gEq (cBin gIx (cVar 0) (cConst (.int 0))) (cConst (.str [47])))) (cSl (cVar 0) (pAt (cConst (.int 1))) pNo) (cVar 0))) (gtName 3)
 (sIf (bVal (cBin gEq (cVar 3) (cConst (.str [47]))))
 (seqS (sExpr (cMut gAppend (cVar 1) (argsC (cVar 2) (argsN))))
 (sSet 2 (cConst (.str []))))
 (sSet 2 (cBin gAdd (cVar 2) (cVar 3)))))
 (sRet [] (cIf (bVal (cBin gNe (cVar 2) (cConst (.str [])))) (cBin gAdd (cVar 1) (cLst (argsC (cVar 2) (argsN)))) (cVar 1))))
noncomputable def F_law_split : FnV := runB 4 1 false S_law_split
theorem cal_law_split (hm : mg "_law_split" = some (.ref (He.ga K "_law_split"))) (hF : ∃ fd, FnP K "_law_split" (top 13) (He.ga K "_law_split") fd) (fr : Frees mg) : Cal Pr w K mg base "_law_split" 1 1 F_law_split := by
  refine cal_of (k := 0) (m := false) (N := n_law_split) (S := S_law_split) hm hF sc_law_split rfl (fun _ _ _ _ _ _ us hl => match us, hl with | [_], _ => rfl) fun cdv A outer s H E hr => ?_
  show PSs _ _ (tsOf K [] S_law_split)
  unfold S_law_split
  exact (pssD_cons (qpar 1 2 (ac (pe_lstD pad_nil) (ac (qs []) pad_nil)) sc_law_split.nd)
 (pssD_cons (qfor (pi_seqD (pe_ifD (qtcmp (eq_ok (hu0 hr)) (qix hr (qn 0) qi) (qs [47])) (pe_slD (qn 0) (po_atD qi) po_noD) (qn 0))) (qgn 3 sc_law_split.nd)
 (pssD_one (psD_if (qtcmp (eq_ok (hu0 hr)) (qn 3) (qs [47]))
 (pssD_cons (qexpr (qmut PySem.F.slot_list_append PySem.F.type_list_append append_ok (qn 1) (ac (qn 2) pad_nil)))
 (pssD_one (qset 2 (qs []) sc_law_split.nd)))
 (pssD_one (qset 2 (pe_bin add_ok (qn 2) (qn 3)) sc_law_split.nd)))) PassesOwn.never)
 (pssD_one (psD_ret (pe_ifD (qtcmp (ne_ok (hu0 hr)) (qn 2) (qs [])) (pe_bin add_ok (qn 1) (pe_lstD (ac (qn 2) pad_nil))) (qn 1))))))
/-! _law_path -/
def n_law_path : List Str := ["tape", "most", "front", "some", "way", "turn", "part"]
theorem sc_law_path : FnScope n_law_path ["tape", "most"] (defScope (top 14)) := ⟨rfl, rfl, rfl, by decide +kernel, rfl, by decide +kernel, by decide +kernel⟩
noncomputable def S_law_path : SV := seqS (sSet 2 (cBin gIx (cLst (argsC (cConst (.str [])) (argsC (cConst (.str [47])) (argsN)))) (cBin gFdiv (cCall true F_law_draw (argsC (cVar 0) (argsC (cConst (.int 3)) (argsN)))) (cConst (.int 2)))))
 (seqS (sPar [3, 4] (argsC (cLst (argsN)) (argsC (cCall true F_law_draw (argsC (cVar 0) (argsC (cConst (.int 3)) (argsN)))) (argsN))))
 (seqS (sFor (iRange1 (argsC (cCall true F_law_draw (argsC (cVar 0) (argsC (cBin gAdd (cVar 1) (cConst (.int 1))) (argsN)))) (argsN))) (gtName 5)
 (seqS (sSet 6 (cBin gIx (cLst (argsC (cConst (.str [97])) (argsC (cConst (.str [98])) (argsC (cConst (.str [46, 46])) (argsC (cConst (.str [97])) (argsC (cConst (.str [99])) (argsC (cConst (.str [46])) (argsC (cConst (.str [97, 98])) (argsC (cConst (.str [46, 46])) (argsN)))))))))) (cCall true F_law_draw (argsC (cVar 0) (argsC (cBin gIx (cLst (argsC (cConst (.int 3)) (argsC (cConst (.int 8)) (argsC (cConst (.int 6)) (argsN))))) (cVar 4)) (argsN))))))
 (sExpr (cMut gAppend (cVar 3) (argsC (cVar 6) (argsN))))))
 (seqS (sIf (bAnd (bVal (cBin gEq (cVar 2) (cConst (.str [])))) (bVal (cBin gEq (cVar 3) (cLst (argsN)))))
 (sExpr (cMut gAppend (cVar 3) (argsC (cConst (.str [46])) (argsN))))
 (sNil))
 (sRet [0] (cBin gAdd (cVar 2) (cM "str" gJoin (cConst (.str [47])) (argsC (cVar 3) (argsN))))))))
noncomputable def F_law_path : FnV := runB 7 2 true S_law_path
theorem cal_law_path (hm : mg "_law_path" = some (.ref (He.ga K "_law_path"))) (hF : ∃ fd, FnP K "_law_path" (top 14) (He.ga K "_law_path") fd) (fr : Frees mg) (c_law_draw : Cal Pr w K mg base "_law_draw" 1 2 F_law_draw) : Cal Pr w K mg base "_law_path" 2 2 F_law_path := by
  refine cal_of (k := 1) (m := true) (N := n_law_path) (S := S_law_path) hm hF sc_law_path rfl (fun _ _ _ _ _ _ us hl => match us, hl with | [_, _], _ => rfl) fun cdv A outer s H E hr => ?_
  show PSs _ _ (tsOf K [0] S_law_path)
  unfold S_law_path
  exact (pssD_cons (qset 2 (qix hr (pe_lstD (ac (qs []) (ac (qs [47]) pad_nil))) (pe_bin fdiv_ok (qcall true c_law_draw hr (ac (qn 0) (ac qi pad_nil))) qi)) sc_law_path.nd)
 (pssD_cons (qpar 3 4 (ac (pe_lstD pad_nil) (ac (qcall true c_law_draw hr (ac (qn 0) (ac qi pad_nil))) pad_nil)) sc_law_path.nd)
 (pssD_cons (qfor (qr1 (fr 6 _ rfl) (ac (qcall true c_law_draw hr (ac (qn 0) (ac (pe_bin add_ok (qn 1) qi) pad_nil))) pad_nil)) (qgn 5 sc_law_path.nd)
 (pssD_cons (qset 6 (qix hr (pe_lstD (ac (qs [97]) (ac (qs [98]) (ac (qs [46, 46]) (ac (qs [97]) (ac (qs [99]) (ac (qs [46]) (ac (qs [97, 98]) (ac (qs [46, 46]) pad_nil))))))))) (qcall true c_law_draw hr (ac (qn 0) (ac (qix hr (pe_lstD (ac qi (ac qi (ac qi pad_nil)))) (qn 4)) pad_nil)))) sc_law_path.nd)
 (pssD_one (qexpr (qmut PySem.F.slot_list_append PySem.F.type_list_append append_ok (qn 3) (ac (qn 6) pad_nil))))) PassesOwn.never)
 (pssD_cons (psD_if (pw_andD (qtcmp (eq_ok (hu0 hr)) (qn 2) (qs [])) (pw_and1 (qtcmp (eq_ok (hu0 hr)) (qn 3) (pe_lstD pad_nil)))).pt
 (pssD_one (qexpr (qmut PySem.F.slot_list_append PySem.F.type_list_append append_ok (qn 3) (ac (qs [46]) pad_nil))))
 pssD_nil)
 (pssD_one (psD_ret (pe_bin add_ok (qn 2) (qm (Or.inl rfl) PySem.F.plainAttrs_str PySem.F.slot_str_join PySem.F.type_str_join join_ok (qs [47]) (ac (qn 3) pad_nil)))))))))
/-! _law_is_path -/
def n_law_is_path : List Str := ["value", "some", "part", "small", "sign"]
theorem sc_law_is_path : FnScope n_law_is_path ["value"] (defScope (top 15)) := ⟨rfl, rfl, rfl, by decide +kernel, rfl, by decide +kernel, by decide +kernel⟩
noncomputable def S_law_is_path : SV := seqS (sIf (bOr (bNot (bVal (cIs "str" (cVar 0)))) (bVal (cBin gEq (cVar 0) (cConst (.str [])))))
 (sRet [] (cConst (.bl false)))
 (sNil))
 (seqS (sSet 1 (cCall false F_law_split (argsC (cVar 0) (argsN))))
 (seqS (sIf (bOr (bVal (cBin gGt (cB gLen (argsC (cVar 1) (argsN))) (cConst (.int 12)))) (bAnd (bVal (cBin gEq (cBin gIx (cVar 0) (cBin gSub (cB gLen (argsC (cVar 0) (argsN))) (cConst (.int 1)))) (cConst (.str [47])))) (bVal (cBin gNe (cVar 0) (cConst (.str [47]))))))
 (sRet [] (cConst (.bl false)))
 (sNil))
 (seqS (sFor (iSeq (cVar 1)) (gtName 2)
 (seqS (sSet 3 (cLc (iSeq (cVar 2)) (gtName 4) (bVal (cChain gLe gLe (cConst (.str [97])) (cVar 4) (cConst (.str [122])))) (cVar 4) [4]))
 (sIf (bAnd (bVal (cBin gNotIn (cVar 2) (cTup (argsC (cConst (.str [46])) (argsC (cConst (.str [46, 46])) (argsN)))))) (bOr (bVal (cBin gNe (cB gLen (argsC (cVar 3) (argsN))) (cB gLen (argsC (cVar 2) (argsN))))) (bNot (bVal (cChain gLt gLt (cConst (.int 0)) (cB gLen (argsC (cVar 2) (argsN))) (cConst (.int 4)))))))
 (sRet [] (cConst (.bl false)))
 (sNil))))
 (sRet [] (cConst (.bl true))))))
noncomputable def F_law_is_path : FnV := runB 5 1 false S_law_is_path
theorem cal_law_is_path (hm : mg "_law_is_path" = some (.ref (He.ga K "_law_is_path"))) (hF : ∃ fd, FnP K "_law_is_path" (top 15) (He.ga K "_law_is_path") fd) (fr : Frees mg) (c_law_split : Cal Pr w K mg base "_law_split" 1 1 F_law_split) : Cal Pr w K mg base "_law_is_path" 2 1 F_law_is_path := by
  refine cal_of (k := 1) (m := false) (N := n_law_is_path) (S := S_law_is_path) hm hF sc_law_is_path rfl (fun _ _ _ _ _ _ us hl => match us, hl with | [_], _ => rfl) fun cdv A outer s H E hr => ?_
  show PSs _ _ (tsOf K [] S_law_is_path)
  unfold S_law_is_path
  exact (pssD_cons (psD_if (pw_orD (pt_notD (qtv (qis "str" (fr 0 _ rfl) (fr 1 _ rfl) (qn 0)))) (pw_or1 (qtcmp (eq_ok (hu0 hr)) (qn 0) (qs [])))).pt
 (pssD_one (psD_ret qb))
 pssD_nil)
 (pssD_cons (qset 1 (qcall false c_law_split hr (ac (qn 0) pad_nil)) sc_law_is_path.nd)
 (pssD_cons (psD_if (pw_orD (qtcmp gt_ok (qbf len_ok (fr 2 _ rfl) (ac (qn 1) pad_nil)) qi) (pw_or1 (pw_andD (qtcmp (eq_ok (hu0 hr)) (qix hr (qn 0) (pe_bin sub_ok (qbf len_ok (fr 2 _ rfl) (ac (qn 0) pad_nil)) qi)) (qs [47])) (pw_and1 (qtcmp (ne_ok (hu0 hr)) (qn 0) (qs [47])))).pt)).pt
 (pssD_one (psD_ret qb))
 pssD_nil)
 (pssD_cons (qfor (pi_seqD (qn 1)) (qgn 2 sc_law_is_path.nd)
 (pssD_cons (qslc 3 [("sign", 4)] sc_law_is_path.nd (pi_seqD (qn 2)) (blkOk_by (N := n_law_is_path) (sc := defScope (top 15)) (by decide +kernel)) (fun _ _ _ _ _ => (qgn 4 sc_law_is_path.nd)) (fun _ _ _ _ _ => (pts_oneD (qtchain le_ok le_ok (qs [97]) (qn 4) (qs [122])))) (fun _ _ _ _ _ => (qn 4)) (hsw := sw_true rfl rfl rfl (by decide +kernel)))
 (pssD_one (psD_if (pw_andD (qtcmp (notin_ok (hu1 hr)) (qn 2) (pe_tupD (ac (qs [46]) (ac (qs [46, 46]) pad_nil)))) (pw_and1 (pw_orD (qtcmp (ne_ok (hu0 hr)) (qbf len_ok (fr 2 _ rfl) (ac (qn 3) pad_nil)) (qbf len_ok (fr 2 _ rfl) (ac (qn 2) pad_nil))) (pw_or1 (pt_notD (qtchain lt_ok lt_ok qi (qbf len_ok (fr 2 _ rfl) (ac (qn 2) pad_nil)) qi)))).pt)).pt
 (pssD_one (psD_ret qb))
 pssD_nil))) PassesOwn.never)
 (pssD_one (psD_ret qb))))))
/-! law -/
def nlaw : List Str := ["script", "tape", "turn", "path", "at", "things", "sign", "thing", "good"]
theorem sclaw : FnScope nlaw ["script"] (defScope (top 16)) := ⟨rfl, rfl, rfl, by decide +kernel, rfl, by decide +kernel, by decide +kernel⟩
noncomputable def Slaw_b1 : SV := sSet 5 (cBin gAdd (cVar 5) (cLst (argsC (cBin gAdd (cBin gAdd (cSl (cVar 3) pNo (pAt (cVar 4))) (cVar 6)) (cSl (cVar 3) (pAt (cVar 4)) pNo)) (argsC (cBin gAdd (cBin gAdd (cSl (cVar 3) pNo (pAt (cVar 4))) (cVar 6)) (cSl (cVar 3) (pAt (cBin gAdd (cVar 4) (cConst (.int 1)))) pNo)) (argsN)))))
noncomputable def Slaw_s2 : SV := sIf (bAnd (bVal (cVar 8)) (bNot (bVal (cCall false (F_law_like 8) (argsC (cCall false Fparts (argsC (cVar 7) (argsN))) (argsC (cCall false F_law_split (argsC (cVar 7) (argsN))) (argsN)))))))
 (sRet [] (cConst (.bl false)))
 (sNil)
noncomputable def Slaw_b3 : SV := seqS (sSet 8 (cCall false F_law_is_path (argsC (cVar 7) (argsN))))
 (seqS (sIf (bNot (bVal (cCall false (F_law_like 8) (argsC (cCall false Fis_path (argsC (cVar 7) (argsN))) (argsC (cVar 8) (argsN))))))
 (sRet [] (cConst (.bl false)))
 (sNil))
 (Slaw_s2))
noncomputable def Slaw_s4 : SV := sFor (iSeq (cBin gAdd (cVar 5) (cLst (argsC (cCall true (F_law_spoilt 4) (argsC (cVar 1) (argsC (cTup (argsC (cVar 3) (argsC (cConst (.str [97, 47, 98])) (argsN)))) (argsN)))) (argsC (cCall true (F_law_any 4) (argsC (cVar 1) (argsC (cConst (.int 2)) (argsN)))) (argsN)))))) (gtName 7)
 (Slaw_b3)
noncomputable def Slaw_b5 : SV := seqS (sSet 3 (cCall true F_law_path (argsC (cVar 1) (argsC (cConst (.int 12)) (argsN)))))
 (seqS (sSet 4 (cCall true F_law_draw (argsC (cVar 1) (argsC (cBin gAdd (cB gLen (argsC (cVar 3) (argsN))) (cConst (.int 1))) (argsN)))))
 (seqS (sSet 5 (cLst (argsC (cVar 3) (argsC (cB gList (argsC (cVar 3) (argsN))) (argsC (cConst (.str [])) (argsC (cConst (.str [47])) (argsC (cConst (.str [47, 47])) (argsC (cConst (.str [97, 47])) (argsC (cConst (.str [47, 97, 47])) (argsC (cConst (.str [97, 47, 47, 98])) (argsC (cConst (.str [97, 98, 99])) (argsC (cConst (.str [97, 98, 99, 100])) (argsC (cConst (.str [46, 46, 46])) (argsC (cConst (.str [65])) (argsC (cConst (.str [97, 32, 98])) (argsC (cConst .non) (argsC (cConst (.int 5)) (argsN))))))))))))))))))
 (seqS (sExpr (cMut gAppend (cVar 5) (argsC (cTup (argsC (cConst (.str [97])) (argsN))) (argsN))))
 (seqS (sSet 5 (cBin gAdd (cVar 5) (cLst (argsC (cBin gAdd (cBin gMul (cConst (.str [97, 47])) (cConst (.int 11))) (cConst (.str [98]))) (argsC (cBin gAdd (cBin gMul (cConst (.str [97, 47])) (cConst (.int 12))) (cConst (.str [98]))) (argsC (cBin gAdd (cBin gAdd (cConst (.str [47])) (cBin gMul (cConst (.str [97, 47])) (cConst (.int 12)))) (cConst (.str [98]))) (argsC (cConst (.str [46])) (argsC (cConst (.str [46, 46])) (argsC (cConst (.str [47, 46])) (argsC (cConst (.str [97, 49])) (argsC (cConst (.str [45])) (argsN))))))))))))
 (seqS (sFor (iSeq (cTup (argsC (cConst (.str [97])) (argsC (cConst (.str [47])) (argsC (cConst (.str [46])) (argsC (cConst (.str [66])) (argsC (cConst (.str [32])) (argsC (cConst (.str [])) (argsN))))))))) (gtName 6)
 (Slaw_b1))
 (Slaw_s4))))))
noncomputable def Slaw_s6 : SV := sRet [] (cAnd (cBin gIs (cCall false Fis_path (argsC (cConst (.str [46, 47, 120])) (argsN))) (cConst (.bl true))) (cBin gEq (cCall false Fparts (argsC (cConst (.str [47])) (argsN))) (cLst (argsN))))
noncomputable def Slaw : SV := seqS (sSet 1 (cLst (argsC (cB gList (argsC (cVar 0) (argsN))) (argsC (cConst (.int 0)) (argsC (cConst (.int 0)) (argsN))))))
 (seqS (sFor (iRange1 (argsC (cConst (.int 10)) (argsN))) (gtName 2)
 (Slaw_b5))
 (Slaw_s6))
noncomputable def Flaw : FnV := runB 9 1 false Slaw
theorem callaw {fd : FuncData} (hm : mg "law" = some (.ref (He.ga K "law"))) (hF : FnP K "law" (top 16) (He.ga K "law") fd) (fr : Frees mg) (cparts : Cal Pr w K mg base "parts" 1 1 Fparts) (cis_path : Cal Pr w K mg base "is_path" 2 1 Fis_path) (c_law_draw : Cal Pr w K mg base "_law_draw" 1 2 F_law_draw) (c_law_like : Cal Pr w K mg base "_law_like" 8 2 (F_law_like 8)) (c_law_spoilt : Cal Pr w K mg base "_law_spoilt" 9 2 (F_law_spoilt 4)) (c_law_any : Cal Pr w K mg base "_law_any" 5 2 (F_law_any 4)) (c_law_split : Cal Pr w K mg base "_law_split" 1 1 F_law_split) (c_law_path : Cal Pr w K mg base "_law_path" 2 2 F_law_path) (c_law_is_path : Cal Pr w K mg base "_law_is_path" 2 1 F_law_is_path) : FnOk Pr w K mg base CX0 10 (He.ga K "law") fd ["script"] (spOf K 1 Flaw) := by
  refine fnD_of (k := 9) (m := false) (N := nlaw) (S := Slaw) hF sclaw rfl fun cdv A outer s H E hr => ?_
  show PSs _ _ (tsOf K [] Slaw)
  unfold Slaw
  exact (pssD_cons (qset 1 (pe_lstD (ac (qbt (list_ok rfl) (fr 4 _ rfl) (ac (qn 0) pad_nil)) (ac qi (ac qi pad_nil)))) sclaw.nd)
 (pssD_cons (qfor (qr1 (fr 6 _ rfl) (ac qi pad_nil)) (qgn 2 sclaw.nd)
 (pssD_cons (qset 3 (qcall true c_law_path hr (ac (qn 1) (ac qi pad_nil))) sclaw.nd)
 (pssD_cons (qset 4 (qcall true c_law_draw hr (ac (qn 1) (ac (pe_bin add_ok (qbf len_ok (fr 2 _ rfl) (ac (qn 3) pad_nil)) qi) pad_nil))) sclaw.nd)
 (pssD_cons (qset 5 (pe_lstD (ac (qn 3) (ac (qbt (list_ok rfl) (fr 4 _ rfl) (ac (qn 3) pad_nil)) (ac (qs []) (ac (qs [47]) (ac (qs [47, 47]) (ac (qs [97, 47]) (ac (qs [47, 97, 47]) (ac (qs [97, 47, 47, 98]) (ac (qs [97, 98, 99]) (ac (qs [97, 98, 99, 100]) (ac (qs [46, 46, 46]) (ac (qs [65]) (ac (qs [97, 32, 98]) (ac q0 (ac qi pad_nil)))))))))))))))) sclaw.nd)
 (pssD_cons (qexpr (qmut PySem.F.slot_list_append PySem.F.type_list_append append_ok (qn 5) (ac (pe_tupD (ac (qs [97]) pad_nil)) pad_nil)))
 (pssD_cons (qset 5 (pe_bin add_ok (qn 5) (pe_lstD (ac (pe_bin add_ok (pe_bin mul_ok (qs [97, 47]) qi) (qs [98])) (ac (pe_bin add_ok (pe_bin mul_ok (qs [97, 47]) qi) (qs [98])) (ac (pe_bin add_ok (pe_bin add_ok (qs [47]) (pe_bin mul_ok (qs [97, 47]) qi)) (qs [98])) (ac (qs [46]) (ac (qs [46, 46]) (ac (qs [47, 46]) (ac (qs [97, 49]) (ac (qs [45]) pad_nil)))))))))) sclaw.nd)
 (pssD_cons (qfor (pi_seqD (pe_tupD (ac (qs [97]) (ac (qs [47]) (ac (qs [46]) (ac (qs [66]) (ac (qs [32]) (ac (qs []) pad_nil)))))))) (qgn 6 sclaw.nd)
 (pssD_one (qset 5 (pe_bin add_ok (qn 5) (pe_lstD (ac (pe_bin add_ok (pe_bin add_ok (pe_slD (qn 3) po_noD (po_atD (qn 4))) (qn 6)) (pe_slD (qn 3) (po_atD (qn 4)) po_noD)) (ac (pe_bin add_ok (pe_bin add_ok (pe_slD (qn 3) po_noD (po_atD (qn 4))) (qn 6)) (pe_slD (qn 3) (po_atD (pe_bin add_ok (qn 4) qi)) po_noD)) pad_nil)))) sclaw.nd)) PassesOwn.never)
 (pssD_one (qfor (pi_seqD (pe_bin add_ok (qn 5) (pe_lstD (ac (qcall true c_law_spoilt hr (ac (qn 1) (ac (pe_tupD (ac (qn 3) (ac (qs [97, 47, 98]) pad_nil))) pad_nil))) (ac (qcall true c_law_any hr (ac (qn 1) (ac qi pad_nil))) pad_nil))))) (qgn 7 sclaw.nd)
 (pssD_cons (qset 8 (qcall false c_law_is_path hr (ac (qn 7) pad_nil)) sclaw.nd)
 (pssD_cons (psD_if (pt_notD (qtv (qcall false c_law_like hr (ac (qcall false cis_path hr (ac (qn 7) pad_nil)) (ac (qn 8) pad_nil)))))
 (pssD_one (psD_ret qb))
 pssD_nil)
 (pssD_one (psD_if (pw_andD (qtv (qn 8)) (pw_and1 (pt_notD (qtv (qcall false c_law_like hr (ac (qcall false cparts hr (ac (qn 7) pad_nil)) (ac (qcall false c_law_split hr (ac (qn 7) pad_nil)) pad_nil))))))).pt
 (pssD_one (psD_ret qb))
 pssD_nil)))) PassesOwn.never)))))))) PassesOwn.never)
 (pssD_one (psD_ret (pe_andD (qcmp is_ok (qcall false cis_path hr (ac (qs [46, 47, 120]) pad_nil)) qb) (pe_one (qcmp (eq_ok (hu0 hr)) (qcall false cparts hr (ac (qs [47]) pad_nil)) (pe_lstD pad_nil))))))))
end
end PD

set_option Elab.async false
set_option linter.all false
set_option maxRecDepth 100000
set_option maxHeartbeats 0
namespace PD
open PySem PySem.Spec L2
open PyProof.Rows hiding St
section
def dparts : He.DefD := ⟨("parts", none), "parts", "parts", defArgs (top 5), defBody (top 5), defScope (top 5), [], []⟩
def dis_name : He.DefD := ⟨("is_name", none), "is_name", "is_name", defArgs (top 4), defBody (top 4), defScope (top 4), [], []⟩
def dis_path : He.DefD := ⟨("is_path", none), "is_path", "is_path", defArgs (top 6), defBody (top 6), defScope (top 6), [], []⟩
def d_law_draw : He.DefD := ⟨("_law_draw", none), "_law_draw", "_law_draw", defArgs (top 8), defBody (top 8), defScope (top 8), [], []⟩
def d_law_like : He.DefD := ⟨("_law_like", none), "_law_like", "_law_like", defArgs (top 10), defBody (top 10), defScope (top 10), [], []⟩
def d_law_whole : He.DefD := ⟨("_law_whole", none), "_law_whole", "_law_whole", defArgs (top 9), defBody (top 9), defScope (top 9), [], []⟩
def d_law_any : He.DefD := ⟨("_law_any", none), "_law_any", "_law_any", defArgs (top 12), defBody (top 12), defScope (top 12), [], []⟩
def d_law_spoilt : He.DefD := ⟨("_law_spoilt", none), "_law_spoilt", "_law_spoilt", defArgs (top 11), defBody (top 11), defScope (top 11), [], []⟩
def d_law_split : He.DefD := ⟨("_law_split", none), "_law_split", "_law_split", defArgs (top 13), defBody (top 13), defScope (top 13), [], []⟩
def d_law_path : He.DefD := ⟨("_law_path", none), "_law_path", "_law_path", defArgs (top 14), defBody (top 14), defScope (top 14), [], []⟩
def d_law_is_path : He.DefD := ⟨("_law_is_path", none), "_law_is_path", "_law_is_path", defArgs (top 15), defBody (top 15), defScope (top 15), [], []⟩
def dlaw : He.DefD := ⟨("law", none), "law", "law", defArgs (top 16), defBody (top 16), defScope (top 16), [], []⟩
def fn : List He.DefD := [dparts, dis_name, dis_path, d_law_draw, d_law_like, d_law_whole, d_law_any, d_law_spoilt, d_law_split, d_law_path, d_law_is_path, dlaw]
def fa0 : List He.Fa := [.glo "parts", .glo "is_name", .glo "is_path", .glo "_law_draw", .glo "_law_like", .glo "_law_whole", .glo "_law_any", .glo "_law_spoilt", .glo "_law_split", .glo "_law_path", .glo "_law_is_path", .glo "law", .free "isinstance", .free "str", .free "len", .free "all", .free "list", .free "tuple", .free "range", .free "bool", .free "int", .free "max", .str "LETTERS" ⟨([97, 98, 99, 100, 101, 102, 103, 104, 105, 106, 107, 108, 109, 110, 111, 112, 113, 114, 115, 116, 117, 118, 119, 120, 121, 122] : List Nat).toArray⟩, .int "MOST_PARTS" 12, .int "MOST_LETTERS" 3]
def fa : List He.Fa := fa0
def loose0 : List Str := ["LETTERS", "MOST_PARTS", "MOST_LETTERS", "is_name", "parts", "is_path", "_law_draw", "_law_whole", "_law_like", "_law_spoilt", "_law_any", "_law_split", "_law_path", "_law_is_path"]
def loose : List Str := loose0
abbrev Rr : PySem.W.OpenRow := PySem.W.OpenLaw.row PySem.Challenge.rw_linkpaths_k01_path_values
abbrev hk : PySem.W.Hook := He.hookD 4 fa fn
def ob (s : PySem.W.SharedT) : He.AlD := He.obsDG 4 fa fn (HandSHeadRun.getT s)
theorem ob_eq (s : PySem.W.SharedT) : ob s = hk.obs s.abs := He.obsDG_eq (HandSHeadRun.getT_eq s)
theorem run (w : World) : HandSHeadRun.RunEq Rr (PySem.W.view Rr.prog [16]) hk ob 780 loose w := by
  intro os
  kernel_rfl
theorem free_all {K : PySem.W.Frag} {h : Heap} {mg : Str → Option Value} (X : K.In h) (G : h.Ns mainGlobals mg) (c : He.SaysD fa fn K) : Frees mg := fun i x e => by
  have hm : He.Fa.free x ∈ fa := by
    have h1 : frees.all (fun x => fa.any fun f => match f with | .free y => decide (y = x) | _ => false) = true := by decide +kernel
    obtain ⟨f, hf, e2⟩ := List.any_eq_true.mp (List.all_eq_true.mp h1 x (List.mem_of_getElem? e))
    cases f with
    | free y => have : y = x := of_decide_eq_true e2
                rw [← this]
                exact hf
    | _ => cases e2
  exact He.free_ok X G (c.facts hm)
theorem facts {Pr : Program} {w : World} {K : PySem.W.Frag} {h : Heap} {mg : Str → Option Value} {f : Addr} (X : K.In h) (G : h.Ns mainGlobals mg) (hfa : mg ("law" : Str) = some (.ref f)) (c : He.SaysD fa fn K) :
    ∃ fd : FuncData, (∀ (s : Shared) (v : Value), BindsTo s fd ⟨[v], []⟩ [("script", v)]) ∧ ∀ base : Heap, K.In base → base.Ns mainGlobals mg → FnOk Pr w K mg base CX0 10 f fd ["script"] (spOf K 1 Flaw) := by
  have fr := free_all X G c
  have F_parts : ∃ fd, FnP K "parts" (top 5) (He.ga K "parts") fd := c.def_ 0 (d := dparts) rfl
  have g_parts := He.glo_ok X G (c.fact 0 (f := .glo "parts") rfl)
  have F_is_name : ∃ fd, FnP K "is_name" (top 4) (He.ga K "is_name") fd := c.def_ 1 (d := dis_name) rfl
  have g_is_name := He.glo_ok X G (c.fact 1 (f := .glo "is_name") rfl)
  have F_is_path : ∃ fd, FnP K "is_path" (top 6) (He.ga K "is_path") fd := c.def_ 2 (d := dis_path) rfl
  have g_is_path := He.glo_ok X G (c.fact 2 (f := .glo "is_path") rfl)
  have F__law_draw : ∃ fd, FnP K "_law_draw" (top 8) (He.ga K "_law_draw") fd := c.def_ 3 (d := d_law_draw) rfl
  have g__law_draw := He.glo_ok X G (c.fact 3 (f := .glo "_law_draw") rfl)
  have F__law_like : ∃ fd, FnP K "_law_like" (top 10) (He.ga K "_law_like") fd := c.def_ 4 (d := d_law_like) rfl
  have g__law_like := He.glo_ok X G (c.fact 4 (f := .glo "_law_like") rfl)
  have F__law_whole : ∃ fd, FnP K "_law_whole" (top 9) (He.ga K "_law_whole") fd := c.def_ 5 (d := d_law_whole) rfl
  have g__law_whole := He.glo_ok X G (c.fact 5 (f := .glo "_law_whole") rfl)
  have F__law_any : ∃ fd, FnP K "_law_any" (top 12) (He.ga K "_law_any") fd := c.def_ 6 (d := d_law_any) rfl
  have g__law_any := He.glo_ok X G (c.fact 6 (f := .glo "_law_any") rfl)
  have F__law_spoilt : ∃ fd, FnP K "_law_spoilt" (top 11) (He.ga K "_law_spoilt") fd := c.def_ 7 (d := d_law_spoilt) rfl
  have g__law_spoilt := He.glo_ok X G (c.fact 7 (f := .glo "_law_spoilt") rfl)
  have F__law_split : ∃ fd, FnP K "_law_split" (top 13) (He.ga K "_law_split") fd := c.def_ 8 (d := d_law_split) rfl
  have g__law_split := He.glo_ok X G (c.fact 8 (f := .glo "_law_split") rfl)
  have F__law_path : ∃ fd, FnP K "_law_path" (top 14) (He.ga K "_law_path") fd := c.def_ 9 (d := d_law_path) rfl
  have g__law_path := He.glo_ok X G (c.fact 9 (f := .glo "_law_path") rfl)
  have F__law_is_path : ∃ fd, FnP K "_law_is_path" (top 15) (He.ga K "_law_is_path") fd := c.def_ 10 (d := d_law_is_path) rfl
  have g__law_is_path := He.glo_ok X G (c.fact 10 (f := .glo "_law_is_path") rfl)
  obtain ⟨fd, F_law⟩ := c.def_ 11 (d := dlaw) rfl
  have g_law := He.glo_ok X G (c.fact 11 (f := .glo "law") rfl)
  have c_LETTERS := mg_str X G (c.fact 22 (f := .str "LETTERS" ⟨([97, 98, 99, 100, 101, 102, 103, 104, 105, 106, 107, 108, 109, 110, 111, 112, 113, 114, 115, 116, 117, 118, 119, 120, 121, 122] : List Nat).toArray⟩) rfl)
  have c_MOST_PARTS := mg_int X G (c.fact 23 (f := .int "MOST_PARTS" 12) rfl)
  have c_MOST_LETTERS := mg_int X G (c.fact 24 (f := .int "MOST_LETTERS" 3) rfl)
  have e := hfa.symm.trans g_law
  cases e
  have b := FunD.bindsA (ps := ["script"]) F_law fun _ _ _ _ _ _ us hl => match us, hl with | [_], _ => rfl
  refine ⟨fd, fun s v => b s [v] rfl, fun base _ _ => ?_⟩
  have kparts := calparts (Pr := Pr) (w := w) (base := base) g_parts F_parts fr  
  have kis_name := calis_name (Pr := Pr) (w := w) (base := base) g_is_name F_is_name fr c_LETTERS c_MOST_LETTERS 
  have kis_path := calis_path (Pr := Pr) (w := w) (base := base) g_is_path F_is_path fr c_MOST_PARTS kis_name kparts
  have k_law_draw := cal_law_draw (Pr := Pr) (w := w) (base := base) g__law_draw F__law_draw fr  
  have k_law_like := cal_law_like (Pr := Pr) (w := w) (base := base) g__law_like F__law_like fr  
  have k_law_whole := cal_law_whole (Pr := Pr) (w := w) (base := base) g__law_whole F__law_whole fr  
  have k_law_any := cal_law_any (Pr := Pr) (w := w) (base := base) g__law_any F__law_any fr  k_law_draw
  have k_law_spoilt := cal_law_spoilt (Pr := Pr) (w := w) (base := base) g__law_spoilt F__law_spoilt fr  k_law_draw k_law_whole (k_law_any 4)
  have k_law_split := cal_law_split (Pr := Pr) (w := w) (base := base) g__law_split F__law_split fr  
  have k_law_path := cal_law_path (Pr := Pr) (w := w) (base := base) g__law_path F__law_path fr  k_law_draw
  have k_law_is_path := cal_law_is_path (Pr := Pr) (w := w) (base := base) g__law_is_path F__law_is_path fr  k_law_split
  exact callaw (Pr := Pr) (w := w) (base := base) g_law F_law fr  kparts kis_path k_law_draw (k_law_like 8) (k_law_spoilt 4) (k_law_any 4) k_law_split k_law_path k_law_is_path
end
end PD
open PySem PySem.W PySem.Calls PyProof.Rows
theorem holds_of (main : ∀ ns : List Int, ns.length ≤ 63 → ∃ ws, PD.Flaw [.v (.scr (ns.map PD.D.int))] = some (.v (.bl true), ws)) : PySem.Challenge.rw_linkpaths_k01_path_values.Holds := by
  w_on; o_law
  refine HandSHeadRun.head_any (r := OpenLaw.row PySem.Challenge.rw_linkpaths_k01_path_values) (q := view (OpenLaw.row PySem.Challenge.rw_linkpaths_k01_path_values).prog [16]) (H := PD.hk) (ob := PD.ob) (M := 780) (loose := PD.loose) (d := HandSHeadRun.topDef (OpenLaw.row PySem.Challenge.rw_linkpaths_k01_path_values).prog 16) (kwd := []) PD.ob_eq
    (by kernel_rfl) (fun s => by kernel_rfl) PD.run (by kernel_rfl) (by kernel_rfl) (by kernel_rfl) (by rfl) (by first | assumption | decide +kernel) (by decide +kernel) ⟨rfl, rfl, rfl, rfl, rfl, by decide +kernel⟩ ?hw ?hc
  case hw => w_witness2
  case hc =>
    refine L2.walk_ofE (l := PySem.Challenge.rw_linkpaths_k01_path_values) (n := 63) (k := 10) (x := "script") (CX := L2.CX0) rfl (by decide) (by kernel_rfl) ⟨rfl, by decide, by decide⟩ ?F (fun _ _ _ _ z => z)
    intro w mg fa h Y G hmg0
    obtain ⟨K, KX, c⟩ := Y
    have hmg : mg ("law" : PySem.Str) = some (.ref fa) := by
      have e : (HandSHeadRun.topDef (OpenLaw.row PySem.Challenge.rw_linkpaths_k01_path_values).prog 16).name = ("law" : PySem.Str) := by kernel_rfl
      rw [← e]
      exact hmg0
    obtain ⟨fd, hb, hF⟩ := PD.facts (Pr := PySem.Challenge.rw_linkpaths_k01_path_values.prog) (w := w) KX G hmg c
    exact ⟨K, fd, PD.spOf K 1 PD.Flaw, KX, hb, fun H a ns hl _ hS => (main ns hl).elim fun ws e => PD.law_ends hS e, hF⟩
set_option Elab.async false
set_option linter.all false
set_option maxRecDepth 100000
set_option maxHeartbeats 400000
namespace PD
open PySem PySem.Spec L2
open PyProof.Rows hiding St
theorem ev_draw {t : Tp} {m : Int} {P : W × List W → Prop} (h0 : 0 < m) (h1 : m < 18446744073709551616) (k : ∀ (t' : Tp) (r : Int), 0 ≤ r → r < m → P (.v (.int r), [.l t'.l, .v (.int m)])) : Ev (F_law_draw [.l t.l, .v (.int m)]) (tg P) := by
  obtain ⟨ns, a, b, hn, ha, hb⟩ := t
  have fin : ∀ (a' b' : Int), 0 ≤ a' → 0 ≤ b' → P (.v (.int (b' % m)), [.l [.lst (ns.map .int), .int a', .int (b' / m)], .v (.int m)]) := fun a' b' q1 q2 =>
    k ⟨ns, a', b' / m, hn, q1, Int.ediv_nonneg q2 (by omega)⟩ (b' % m) (Int.emod_nonneg _ (by omega)) (Int.emod_lt_of_pos _ h0)
  have h1' : m < 18446744073709551616 := h1
  have pm : ∀ x : Int, 0 ≤ x % 2305843009213693951 ∧ x % 2305843009213693951 < 2305843009213693951 := fun x => ⟨Int.emod_nonneg _ (by decide), Int.emod_lt_of_pos _ (by decide)⟩
  have pn : ∀ x : Int, (x % 2305843009213693951).natAbs < 18446744073709551616 := fun x => by have := pm x; omega
  unfold F_law_draw S_law_draw Tp.l
  simp [h0, h1']
  refine ⟨fun hb1 => ?_, fun hb1 => ?_⟩
  · simp
    refine ⟨fun hl => ?_, fun hl => ?_⟩
    · have q1 : ixN ns.length (a % ns.length) = some (a % ns.length).toNat := ixN_lt (Int.emod_nonneg _ (by omega)) (Int.emod_lt_of_pos _ (by omega))
      have q2 : (a % ns.length).toNat < ns.length := by
        have a1 := Int.emod_nonneg a (b := ns.length) (by omega)
        have a2 := Int.emod_lt_of_pos a (b := ns.length) (by omega)
        omega
      simp [hl, q1, List.getElem?_map, List.getElem?_eq_getElem q2]
      refine ⟨fun z => ?_, fun z => ?_⟩
      · simp [pn, pm, h0, h1']
        exact fin _ _ (by omega) (pm _).1
      · simp
        refine ⟨fun z2 => ?_, fun z2 => ?_⟩
        · simp [pn, pm, h0, h1']
          exact fin _ _ (by omega) (pm _).1
        · simp [h0, h1']
          exact fin _ _ (by omega) (by omega)
    · have hl2 : (ns.length : Int) ≤ a := by omega
      simp [hl2, pn, pm, h0, h1']
      exact fin _ _ (by omega) (pm _).1
  · simp [h0, h1']
    exact fin _ _ ha hb
end PD

set_option Elab.async false
set_option linter.all false
set_option maxRecDepth 100000
set_option maxHeartbeats 400000
namespace PD
open PySem PySem.Spec L2
open PyProof.Rows hiding St
theorem whole_eq {d : D} (h : notScr d = true) : F_law_whole [.v d] = some (.v (.bl (match d with | .int _ => true | _ => false)), [.v d]) := by
  refine Ev.eqn ?_
  unfold F_law_whole S_law_whole
  cases d with
  | scr xs => cases h
  | _ => simp
def lower (c : Nat) : Bool := decide (c ∈ ([97,98,99,100,101,102,103,104,105,106,107,108,109,110,111,112,113,114,115,116,117,118,119,120,121,122] : List Nat))
def nameB (z : List Nat) : Bool := decide (1 ≤ z.length) && (decide (z.length ≤ 3) && z.all lower)
theorem is_name_eq {z : List Nat} (hz : z.length ≤ 1000) : Fis_name [.v (.str z)] = some (.v (.bl (nameB z)), [.v (.str z)]) := by
  refine Ev.eqn ?_
  unfold Fis_name Sis_name nameB
  simp
  refine ⟨fun h1 => ?_, fun h1 => ?_⟩
  · simp
    refine ⟨fun h2 => ?_, fun h2 => ?_⟩
    · simp
      intros; omega
    · simp
      refine ev_lcM (xs := z) (fun c => .str [c]) (fun _ => true) (fun c => .bl (lower c)) (by rw [sz]; simp; omega) (fun c hc => by simp [lower]) ?_
      simp [show 1 ≤ z.length by omega, show z.length ≤ 3 by omega]
  · simp
    intros; omega
def bodyOf (z : List Nat) : List Nat := if z.take 1 = [47] then z.drop 1 else z
def partsM (z : List Nat) : List (List Nat) := if bodyOf z = [] then [] else splitC 47 (bodyOf z)
theorem parts_eq {z : List Nat} (hz : z.length ≤ 1000) : Fparts [.v (.str z)] = some (.l ((partsM z).map D.str), [.v (.str z)]) := by
  refine Ev.eqn ?_
  unfold Fparts Sparts partsM bodyOf
  simp
  have h1 : z.length + 2 ≤ 16777216 := by omega
  have h2 : z.length - 1 + 2 ≤ 16777216 := by omega
  refine ⟨fun h => ?_, fun h => ?_⟩
  · simp
    refine ⟨fun h3 => ?_, fun h3 => ?_⟩
    · simp [h, h2, h3]
    · simp at h3
      simp [h, h3]
  · simp
    refine ⟨fun h3 => ?_, fun h3 => ?_⟩
    · simp [h, h1, h3]
    · simp at h3
      simp [h, h3]
def dotB (z : List Nat) : Bool := decide (z = [46]) || decide (z = [46, 46])
def isPathM (z : List Nat) : Bool := decide (z ≠ []) && (decide ((partsM z).length ≤ 12) && (partsM z).all fun p => dotB p || nameB p)
theorem splitC_len (c : Nat) : ∀ z : List Nat, (splitC c z).length ≤ z.length + 1 ∧ ∀ p ∈ splitC c z, p.length ≤ z.length
  | [] => by simp [splitC]
  | x :: xs => by
    have ih := splitC_len c xs
    rw [splitC_cons]
    split
    · refine ⟨by simp; exact ih.1, fun p hp => ?_⟩
      rcases List.mem_cons.mp hp with rfl | hp
      · simp
      · have := ih.2 p hp; simp; omega
    · cases h : splitC c xs with
      | nil => exact absurd h (splitC_ne c xs)
      | cons q qs =>
        rw [h] at ih
        refine ⟨by simp at ih ⊢; omega, fun p hp => ?_⟩
        rcases List.mem_cons.mp hp with rfl | hp
        · have := ih.2 q List.mem_cons_self; simp; omega
        · have := ih.2 p (List.mem_cons_of_mem _ hp); simp; omega
theorem body_len (z : List Nat) : (bodyOf z).length ≤ z.length := by
  unfold bodyOf; split <;> simp
theorem partsM_len (z : List Nat) : (partsM z).length ≤ z.length + 1 ∧ ∀ p ∈ partsM z, p.length ≤ z.length := by
  have h := body_len z
  unfold partsM
  split
  · simp
  · have := splitC_len 47 (bodyOf z)
    exact ⟨by omega, fun p hp => by have := this.2 p hp; omega⟩
theorem is_path_eq {z : List Nat} (hz : z.length ≤ 1000) : Fis_path [.v (.str z)] = some (.v (.bl (isPathM z)), [.v (.str z)]) := by
  refine Ev.eqn ?_
  unfold Fis_path Sis_path isPathM
  simp
  have hp := partsM_len z
  refine ⟨fun h => ?_, fun h => ?_⟩
  · simp [h]
  · simp [parts_eq hz]
    refine ⟨fun h2 => ?_, fun h2 => ?_⟩
    · simp
      refine ev_lcM (xs := partsM z) D.str (fun _ => true) (fun p => .bl (dotB p || nameB p)) (by rw [sz]; simp; omega) (fun c hc => ?_) ?_
      · have hc1 : c.length ≤ 1000 := by have := hp.2 c hc; omega
        simp
        refine ⟨fun h3 => ?_, fun h3 => ?_⟩
        · simp [dotB]
          rcases h3 with h3 | h3 <;> simp [h3]
        · simp [is_name_eq hc1, dotB]
          rw [not_or] at h3
          simp [Ne.symm h3.1, Ne.symm h3.2]
      · simp [h]
        intros; omega
    · simp [h]
      intros; omega
def spl (own : List Nat) (cs : List Nat) : List (List Nat) := match splitC 47 cs with
  | [] => [own]
  | p :: ps => (own ++ p) :: ps
theorem spl_nil (own : List Nat) : spl own [] = [own] := by simp [spl, splitC]
theorem spl_sep (own cs : List Nat) : spl own (47 :: cs) = own :: spl [] cs := by
  unfold spl
  rw [splitC_cons, if_pos rfl]
  cases h : splitC 47 cs with
  | nil => exact absurd h (splitC_ne 47 cs)
  | cons p ps => simp
theorem spl_chr (own cs : List Nat) {c : Nat} (h : c ≠ 47) : spl own (c :: cs) = spl (own ++ [c]) cs := by
  unfold spl
  rw [splitC_cons, if_neg h]
  cases h : splitC 47 cs with
  | nil => exact absurd h (splitC_ne 47 cs)
  | cons p ps => simp
theorem spl_0 (cs : List Nat) : spl [] cs = splitC 47 cs := by
  unfold spl
  cases h : splitC 47 cs with
  | nil => exact absurd h (splitC_ne 47 cs)
  | cons p ps => simp
/-- without an empty last one -/
def cutLast (ps : List (List Nat)) : List (List Nat) := if ps.getLast? = some [] then ps.dropLast else ps
def splitM (z : List Nat) : List (List Nat) := cutLast (splitC 47 (bodyOf z))
theorem cutLast_snoc (f : List (List Nat)) (o : List Nat) : cutLast (f ++ [o]) = if o = [] then f else f ++ [o] := by
  unfold cutLast; simp
theorem law_split_eq {z : List Nat} (h0 : z ≠ []) (hz : z.length ≤ 1000) : F_law_split [.v (.str z)] = some (.l ((splitM z).map D.str), [.v (.str z)]) := by
  refine Ev.eqn ?_
  have loop : ∀ cs : List Nat, cs.length ≤ 1000 → cs = bodyOf z → Ev (forL (gtName 3) (sIf (bVal (cBin gEq (cVar 3) (cConst (D.str [47])))) (seqS (sExpr (cMut gAppend (cVar 1) (argsC (cVar 2) argsN))) (sSet 2 (cConst (D.str [])))) (sSet 2 (cBin gAdd (cVar 2) (cVar 3))))
      (cs.map fun c => D.str [c]) [some (W.v (D.str z)), some (W.l []), some (W.v (D.str [])), none]) (tg fun p => ∃ f o x, f ++ [o] = splitC 47 cs ∧ p = (.nx, [some (W.v (D.str z)), some (W.l (f.map D.str)), some (W.v (D.str o)), x])) := fun cs hcs _ => by
    refine ev_forR (fun rest e => ∃ f o x r, rest = r.map (fun c => D.str [c]) ∧ e = [some (W.v (D.str z)), some (W.l (f.map D.str)), some (W.v (D.str o)), x] ∧ f ++ spl o r = splitC 47 cs ∧ f.length + r.length ≤ 1000 ∧ o.length + r.length ≤ 1000) ?_ ?_ ?_
    · exact ⟨[], [], none, cs, rfl, rfl, by simp [spl_0], by simpa using hcs, by simpa using hcs⟩
    · rintro d rest e ⟨f, o, x, r, h1, rfl, h2, h3, h4⟩
      cases r with
      | nil => cases h1
      | cons c r =>
        rw [List.map_cons] at h1
        injection h1 with h5 h6
        subst h5 h6
        simp at h3 h4
        simp
        refine ⟨fun hc => ?_, fun hc => ?_⟩
        · subst hc
          have : f.length < 16777216 := by omega
          simp [this]
          refine ⟨f ++ [o], [], some (.v (.str [47])), r, rfl, by simp, ?_, by simp; omega, by simp; omega⟩
          rw [spl_sep] at h2
          simpa using h2
        · have : o.length + 1 ≤ 16777216 := by omega
          simp [this]
          refine ⟨f, o ++ [c], some (.v (.str [c])), r, rfl, by simp, ?_, by omega, by simp; omega⟩
          rw [spl_chr _ _ hc] at h2
          exact h2
    · rintro e ⟨f, o, x, r, h1, rfl, h2, h3, h4⟩
      cases r with
      | cons _ _ => cases h1
      | nil =>
        rw [spl_nil] at h2
        exact ⟨f, o, x, h2, rfl⟩
  have fin : ∀ f o x, f ++ [o] = splitC 47 (bodyOf z) → Ev (sRet [] (cIf (bVal (cBin gNe (cVar 2) (cConst (D.str [])))) (cBin gAdd (cVar 1) (cLst (argsC (cVar 2) argsN))) (cVar 1)) [some (W.v (D.str z)), some (W.l (f.map D.str)), some (W.v (D.str o)), x])
      (tg fun p => match p.1 with | .rt w => (w, [W.v (.str z)]) = (W.l ((splitM z).map D.str), [W.v (.str z)]) | .nx => (W.v .non, [W.v (.str z)]) = (W.l ((splitM z).map D.str), [W.v (.str z)]) | _ => False) := fun f o x h => by
    have h1 := (splitC_len 47 (bodyOf z)).1
    have h2 := body_len z
    rw [← h] at h1
    simp at h1
    have h3 : f.length + 1 ≤ 16777216 := by omega
    unfold splitM
    rw [← h, cutLast_snoc]
    simp
    refine ⟨fun ho => ?_, fun ho => ?_⟩
    · simp [h3, ho]
    · simp [Classical.not_not.mp ho]
  obtain ⟨c, hc0, hc1⟩ : ∃ c, z[0]? = some c ∧ z.take 1 = [c] := by
    cases z with
    | nil => exact absurd rfl h0
    | cons c z => exact ⟨c, rfl, rfl⟩
  have e0 : ixN z.length 0 = some 0 := ixN_lt (by decide) (by have := List.length_pos_iff.mpr h0; omega)
  unfold F_law_split S_law_split
  simp [e0, hc0]
  refine ⟨fun hc => ?_, fun hc => ?_⟩
  · have hb : bodyOf z = z.drop 1 := by simp [bodyOf, hc1, hc]
    rw [hb] at loop fin
    simp [-List.drop_one]
    rw [← List.map_drop]
    refine (loop (z.drop 1) (by simp; omega) rfl).mono ?_
    rintro p ⟨f, o, x, h1, rfl⟩
    exact fin f o x h1
  · have hb : bodyOf z = z := by simp [bodyOf, hc1, hc]
    rw [hb] at loop fin
    simp
    refine (loop z hz rfl).mono ?_
    rintro p ⟨f, o, x, h1, rfl⟩
    exact fin f o x h1
end PD

set_option Elab.async false
set_option linter.all false
set_option maxRecDepth 100000
set_option maxHeartbeats 400000
namespace PD
open PySem PySem.Spec L2
open PyProof.Rows hiding St
theorem lt1 (a b : Nat) : (([a] : List Nat) < [b]) ↔ a < b := by
  constructor
  · intro h
    cases h with
    | rel h => exact h
    | cons h => cases h
  · intro h; exact List.Lex.rel h
theorem lower_iff (c : Nat) : lower c = true ↔ 97 ≤ c ∧ c ≤ 122 := by
  unfold lower
  simp only [decide_eq_true_eq, List.mem_cons, List.mem_nil_iff, or_false]
  omega
theorem ev_smallB (c : Nat) : (!decide (c < 97) && !decide (122 < c)) = lower c := by
  rw [Bool.eq_iff_iff, lower_iff]; simp
def lawPartB (p : List Nat) : Bool := dotB p || (decide ((p.filter lower).length = p.length) && (decide (0 < p.length) && decide (p.length < 4)))
theorem lawPart_eq (p : List Nat) : lawPartB p = (dotB p || nameB p) := by
  unfold lawPartB nameB
  congr 1
  rw [Bool.eq_iff_iff]
  simp only [Bool.and_eq_true, decide_eq_true_eq, List.length_filter_eq_length_iff, List.all_eq_true]
  constructor
  · rintro ⟨h1, h2, h3⟩; exact ⟨h2, by omega, h1⟩
  · rintro ⟨h1, h2, h3⟩; exact ⟨h3, h1, by omega⟩
def lawPathM (z : List Nat) : Bool := decide (z ≠ []) && (decide ((splitM z).length ≤ 12) && (!(decide (z[z.length - 1]? = some 47) && decide (z ≠ [47])) && (splitM z).all lawPartB))
theorem splitM_len (z : List Nat) : (splitM z).length ≤ z.length + 1 ∧ ∀ p ∈ splitM z, p.length ≤ z.length := by
  have h := splitC_len 47 (bodyOf z)
  have hb := body_len z
  unfold splitM cutLast
  split
  · refine ⟨by simp; omega, fun p hp => ?_⟩
    have := h.2 p (List.dropLast_subset _ hp); omega
  · exact ⟨by omega, fun p hp => by have := h.2 p hp; omega⟩
theorem law_is_path_eq {z : List Nat} (hz : z.length ≤ 1000) : F_law_is_path [.v (.str z)] = some (.v (.bl (lawPathM z)), [.v (.str z)]) := by
  refine Ev.eqn ?_
  by_cases h0 : z = []
  · subst h0
    unfold F_law_is_path S_law_is_path
    simp [lawPathM]
  have hl := splitM_len z
  have hz1 : z.length - 1 < z.length := by have := List.length_pos_iff.mpr h0; omega
  have e0 : ixN z.length ((z.length : Int) - 1) = some (z.length - 1) := by
    rw [ixN_lt (by omega) (by omega)]; congr 1; omega
  have e1 : z[z.length - 1]? = some z[z.length - 1] := List.getElem?_eq_getElem hz1
  unfold F_law_is_path S_law_is_path
  simp [h0, law_split_eq h0 hz]
  refine ⟨fun h1 => ?_, fun h1 => ?_⟩
  · simp [lawPathM, h0]
    intros; omega
  · have key : ∀ S : Fl × Env → Prop, ((splitM z).all lawPartB = true → ∀ e, S (.nx, e)) → ((splitM z).all lawPartB = false → ∀ e, S (.rt (.v (.bl false)), e)) → Ev (forL (gtName 2)
                (seqS
                  (sSet 3
                    (cLc (iSeq (cVar 2)) (gtName 4)
                      (bVal (cChain gLe gLe (cConst (D.str [97])) (cVar 4) (cConst (D.str [122])))) (cVar 4) [4]))
                  (sIf
                    (bAnd
                      (bVal
                        (cBin gNotIn (cVar 2)
                          (cTup (argsC (cConst (D.str [46])) (argsC (cConst (D.str [46, 46])) argsN)))))
                      (bOr (bVal (cBin gNe (cB gLen (argsC (cVar 3) argsN)) (cB gLen (argsC (cVar 2) argsN))))
                        (bNot
                          (bVal
                            (cChain gLt gLt (cConst (D.int 0)) (cB gLen (argsC (cVar 2) argsN)) (cConst (D.int 4)))))))
                    (sRet [] (cConst (D.bl false))) sNil)) ((splitM z).map D.str) [some (.v (.str z)), some (.v (.lst ((splitM z).map D.str))), none, none, none]) (tg S) := fun S kt kf => by
      obtain ⟨I, hI⟩ : ∃ I : List D → Env → Prop, ∀ rest e, I rest e ↔ ∃ (r : List (List Nat)) (x2 x3 : Option W), rest = r.map D.str ∧ e = [some (.v (.str z)), some (.v (.lst ((splitM z).map D.str))), x2, x3, none] ∧ (splitM z).all lawPartB = r.all lawPartB ∧ ∀ p ∈ r, p ∈ splitM z := ⟨_, fun _ _ => Iff.rfl⟩
      refine ev_forR I ((hI _ _).mpr ⟨splitM z, none, none, rfl, rfl, rfl, fun _ h => h⟩) (fun d rest e h => ?_) (fun e h => ?_)
      · obtain ⟨r, x2, x3, h1, rfl, h2, h3⟩ := (hI _ _).mp h
        cases r with
        | nil => cases h1
        | cons p r =>
          rw [List.map_cons] at h1
          injection h1 with h5 h6
          subst h5 h6
          rw [List.all_cons] at h2
          have h3' := fun q hq => h3 q (List.mem_cons_of_mem _ hq)
          have hp : p.length ≤ 1000 := by have := hl.2 p (h3 p List.mem_cons_self); omega
          simp
          refine ev_lcM (xs := p) (fun c => .str [c]) lower (fun c => .str [c]) (by simp; omega) (fun c hc => ?_) ?_
          · simp [lt1]
            have h97 := ev_smallB c
            refine ⟨fun hc1 => ?_, fun hc1 => ?_⟩
            · simp [lt1]
              rw [← h97]; simp; omega
            · simp
              rw [← h97]; simp; omega
          · have hf := List.length_filter_le lower p
            have bad : lawPartB p = false → ∀ e, S (.rt (.v (.bl false)), e) := fun z => kf (by rw [h2, z]; rfl)
            have good : lawPartB p = true → ∀ x2 x3, I (r.map D.str) [some (.v (.str z)), some (.v (.lst ((splitM z).map D.str))), x2, x3, none] := fun hz x2 x3 =>
              (hI _ _).mpr ⟨r, x2, x3, rfl, rfl, by rw [h2, hz]; rfl, h3'⟩
            simp
            refine ⟨fun hd => ?_, fun hd => ?_⟩
            · have hd' : dotB p = false := by simp [dotB]; exact ⟨Ne.symm hd.1, Ne.symm hd.2⟩
              simp
              refine ⟨fun hn => ?_, fun hn => ?_⟩
              · simp
                exact bad (by simp [lawPartB, hd', -List.length_filter_eq_length_iff]; intro z; omega) _
              · have hn' := Classical.not_not.mp hn
                simp
                refine ⟨fun h4 => ?_, fun h4 => ?_⟩
                · simp
                  refine ⟨fun h5 => ?_, fun h5 => ?_⟩
                  · try simp
                    exact bad (by simp [lawPartB, hd', -List.length_filter_eq_length_iff]; intros; omega) _
                  · try simp
                    exact good (by simp [lawPartB, hd', -List.length_filter_eq_length_iff]; omega) _ _
                · try simp
                  exact bad (by simp [lawPartB, hd', -List.length_filter_eq_length_iff]; intros; omega) _
            · simp
              refine good ?_ _ _
              have : dotB p = true := by
                simp [dotB]
                by_cases e : [46] = p
                · exact .inl e.symm
                · right
                  exact (Classical.not_not.mp fun h => hd ⟨e, fun h' => h h'.symm⟩)
              simp [lawPartB, this]
      · obtain ⟨r, x2, x3, h1, rfl, h2, h3⟩ := (hI _ _).mp h
        cases r with
        | cons _ _ => cases h1
        | nil => exact kt (by rw [h2]; rfl) _
    simp [e0, e1]
    refine ⟨fun h2 => ?_, fun h2 => ?_⟩
    · simp
      refine ⟨fun h3 => ?_, fun h3 => ?_⟩
      · simp [lawPathM, h0, e1, h2]
        intro _ h4
        exact absurd h4 h3
      · simp
        refine key _ (fun ha e => ?_) (fun ha e => ?_)
        · simp [lawPathM, h0, ha]
          exact ⟨by omega, .inr (Classical.not_not.mp h3)⟩
        · simp [lawPathM, h0, ha]
    · simp
      refine key _ (fun ha e => ?_) (fun ha e => ?_)
      · simp [lawPathM, h0, ha, e1, h2]
        omega
      · simp [lawPathM, h0, ha]
theorem splitC_last (c : Nat) : ∀ z : List Nat, z ≠ [] → ((splitC c z).getLast? = some [] ↔ z[z.length - 1]? = some c)
  | [], h => absurd rfl h
  | [x], _ => by
    rw [splitC_cons]
    by_cases h : x = c
    · simp [h, splitC]
    · simp [h, splitC]
  | x :: y :: z, _ => by
    have ih := splitC_last c (y :: z) (by simp)
    rw [splitC_cons]
    have e : (x :: y :: z)[(x :: y :: z).length - 1]? = (y :: z)[(y :: z).length - 1]? := by simp
    rw [e, ← ih]
    cases h : splitC c (y :: z) with
    | nil => exact absurd h (splitC_ne c _)
    | cons p ps =>
      split
      · simp
      · cases ps with
        | nil =>
          simp
          rintro rfl
          rw [splitC_cons] at h
          split at h
          · injection h with _ h
            exact splitC_ne c z h
          · cases h2 : splitC c z with
            | nil => rw [h2] at h; cases h
            | cons q qs => rw [h2] at h; cases h
        | cons q qs => simp
theorem body_last (z : List Nat) (h1 : z ≠ [47]) (h0 : z ≠ []) : bodyOf z ≠ [] ∧ (bodyOf z)[(bodyOf z).length - 1]? = z[z.length - 1]? := by
  cases z with
  | nil => exact absurd rfl h0
  | cons x z =>
    unfold bodyOf
    by_cases hx : x = 47
    · subst hx
      cases z with
      | nil => exact absurd rfl h1
      | cons y z => simp
    · simp [hx]
theorem lawPath_eq (z : List Nat) : lawPathM z = isPathM z := by
  by_cases h0 : z = []
  · subst h0; rfl
  by_cases h1 : z = [47]
  · subst h1; decide
  obtain ⟨hb, hl⟩ := body_last z h1 h0
  have hs := splitC_last 47 _ hb
  rw [hl] at hs
  have hp : partsM z = splitC 47 (bodyOf z) := by unfold partsM; rw [if_neg hb]
  unfold lawPathM isPathM splitM cutLast
  rw [hp]
  by_cases h : z[z.length - 1]? = some 47
  · have hm : [] ∈ splitC 47 (bodyOf z) := List.mem_of_getLast? (hs.mpr h)
    simp [h0, h1, h]
    intro _
    exact ⟨[], hm, rfl, rfl⟩
  · rw [if_neg fun z => h (hs.mp z)]
    have : (fun p => dotB p || nameB p) = lawPartB := funext fun p => (lawPart_eq p).symm
    rw [this]
    simp [h0, h1, h]
/-- of good paths the parts are those that the law finds -/
theorem split_parts (z : List Nat) (h : isPathM z = true) : splitM z = partsM z := by
  by_cases h0 : z = []
  · subst h0; cases h
  by_cases h1 : z = [47]
  · subst h1; decide
  obtain ⟨hb, hl⟩ := body_last z h1 h0
  have hs := splitC_last 47 _ hb
  have hp : partsM z = splitC 47 (bodyOf z) := by unfold partsM; rw [if_neg hb]
  have h := h
  rw [← lawPath_eq] at h
  unfold lawPathM at h
  rw [hp]
  unfold splitM cutLast
  rw [if_neg]
  intro h2
  have := hs.mp h2
  rw [hl] at this
  simp [h0, h1, this] at h
end PD

set_option Elab.async false
set_option linter.all false
set_option maxRecDepth 100000
set_option maxHeartbeats 400000
namespace PD
open PySem PySem.Spec L2
open PyProof.Rows hiding St
/-- data for _law_like: nested at most n deep, of a fair size -/
def fine : Nat → D → Bool
  | _, .non => true
  | _, .bl _ => true
  | _, .int _ => true
  | _, .str _ => true
  | n + 1, .lst xs => decide (xs.length ≤ 1000000) && xs.all (fine n)
  | n + 1, .tup xs => decide (xs.length ≤ 1000000) && xs.all (fine n)
  | _, _ => false
theorem fine_lst {n : Nat} {xs : List D} : fine (n + 1) (.lst xs) = (decide (xs.length ≤ 1000000) && xs.all (fine n)) := by rw [fine]
theorem fine_tup {n : Nat} {xs : List D} : fine (n + 1) (.tup xs) = (decide (xs.length ≤ 1000000) && xs.all (fine n)) := by rw [fine]
theorem like_s {k : Nat} : F_law_like (k + 1) = runB 3 2 false (S_law_like (F_law_like k)) := rfl
/-- the comprehension of _law_like over the same items twice -/
theorem like_loop {k : Nat} {xs : List D} {d : D} (hd : ∀ i : Int, gIx d (.int i) = gIx (.lst xs) (.int i)) (h1 : xs.length ≤ 1000000) (h2 : ∀ x ∈ xs, F_law_like k [.v x, .v x] = some (.v (.bl true), [.v x, .v x])) (P : List D × Env → Prop)
    (q : P ([], [some (.v d), some (.v d), none])) : Ev (lcL (gtName 2) (bNot (bVal (cCall false (F_law_like k) (argsC (cBin gIx (cVar 0) (cVar 2)) (argsC (cBin gIx (cVar 1) (cVar 2)) argsN))))) (cVar 2) [2] (rngD 0 xs.length) [] [some (.v d), some (.v d), none]) (tg P) := by
  refine ev_lcM (xs := List.range xs.length) (fun (i : Nat) => .int (0 + (i : Int))) (fun _ => false) (fun _ => .non) (by simp; omega) (fun i hi => ?_) ?_
  · have hi := List.mem_range.mp hi
    have hx : ixN xs.length (i : Int) = some i := by rw [ixN_lt (by omega) (by omega)]; rfl
    have he : xs[i]? = some xs[i] := List.getElem?_eq_getElem hi
    have hm : xs[i] ∈ xs := List.getElem_mem hi
    simp [hd, hx, he, h2 _ hm]
  · rw [List.filter_eq_nil_iff.mpr (by simp)]
    exact q
theorem like_refl : ∀ (n k : Nat) (d : D), fine n d = true → n < k → F_law_like k [.v d, .v d] = some (.v (.bl true), [.v d, .v d]) := by
  intro n
  induction n with
  | zero =>
    intro k d h hk
    obtain ⟨k, rfl⟩ : ∃ j, k = j + 1 := ⟨k - 1, by omega⟩
    refine Ev.eqn ?_
    rw [like_s]
    unfold S_law_like
    cases d with
    | lst _ => cases h
    | tup _ => cases h
    | dic _ => cases h
    | scr _ => cases h
    | _ => simp
  | succ n ih =>
    intro k d h hk
    obtain ⟨k, rfl⟩ : ∃ j, k = j + 1 := ⟨k - 1, by omega⟩
    refine Ev.eqn ?_
    rw [like_s]
    unfold S_law_like
    cases d with
    | dic _ => cases h
    | scr _ => cases h
    | lst xs =>
      rw [fine_lst, Bool.and_eq_true, decide_eq_true_eq, List.all_eq_true] at h
      have h3 : (xs.length : Int) < 4611686018427387904 := by omega
      simp [h3]
      refine like_loop (d := .lst xs) (fun _ => rfl) h.1 (fun x hx => ih k x (h.2 x hx) (by omega)) _ ?_
      simp
    | tup xs =>
      rw [fine_tup, Bool.and_eq_true, decide_eq_true_eq, List.all_eq_true] at h
      have h3 : (xs.length : Int) < 4611686018427387904 := by omega
      simp [h3]
      refine like_loop (d := .tup xs) (fun _ => rfl) h.1 (fun x hx => ih k x (h.2 x hx) (by omega)) _ ?_
      simp
    | _ => simp
end PD

set_option Elab.async false
set_option linter.all false
set_option maxRecDepth 100000
set_option maxHeartbeats 400000
namespace PD
open PySem PySem.Spec L2
open PyProof.Rows hiding St
def toks : List (List Nat) := [[97], [98], [46, 46], [97], [99], [46], [97, 98], [46, 46]]
def drawnPath (m : Int) (z : List Nat) : Prop := ∃ (abs : Bool) (ps : List (List Nat)), z = (if abs then [47] else []) ++ joinD [47] ps ∧ (ps.length : Int) ≤ max m 1 ∧ (∀ p ∈ ps, p ∈ toks) ∧ (abs = false → ps ≠ [])
/-- one of a written list, by a number within it -/
theorem ev_pick {α : Type} {xs : List α} {r : Int} {Q : α → Prop} (h0 : 0 ≤ r) (h1 : r < xs.length) (k : ∀ x ∈ xs, Q x) : Ev (ixN xs.length r) (tg fun j => Ev xs[j]? (tg Q)) := by
  have h : r.toNat < xs.length := by omega
  rw [ixN_lt h0 h1, ev_some, List.getElem?_eq_getElem h, ev_some]
  exact k _ (List.getElem_mem h)
theorem ev_pickM {α β : Type} {mk : α → β} {xs : List α} {r : Int} {Q : β → Prop} (h0 : 0 ≤ r) (h1 : r < xs.length) (k : ∀ x ∈ xs, Q (mk x)) : Ev (ixN xs.length r) (tg fun j => Ev (xs.map mk)[j]? (tg Q)) := by
  have h : r.toNat < (xs.map mk).length := by simp; omega
  rw [ixN_lt h0 h1, ev_some, List.getElem?_eq_getElem h, ev_some]
  rw [List.getElem_map]
  exact k _ (List.getElem_mem _)
theorem tok_len {p : List Nat} (h : p ∈ toks) : 1 ≤ p.length ∧ p.length ≤ 2 := (by decide : ∀ p ∈ toks, 1 ≤ p.length ∧ p.length ≤ 2) p h
theorem sum_len : ∀ {ps : List (List Nat)}, (∀ p ∈ ps, p ∈ toks) → (ps.map List.length).sum ≤ 2 * ps.length
  | [], _ => by simp
  | p :: ps, h => by
    have h1 := tok_len (h p List.mem_cons_self)
    have h2 := sum_len (ps := ps) fun q hq => h q (List.mem_cons_of_mem _ hq)
    simp; omega
theorem join_len (y : List Nat) : ∀ ps : List (List Nat), (joinD y ps).length ≤ (ps.map List.length).sum + ps.length * y.length
  | [] => by simp [joinD]
  | [x] => by simp [joinD]
  | x :: x' :: xs => by
    have := join_len y (x' :: xs)
    show (x ++ (y ++ joinD y (x' :: xs))).length ≤ _
    simp [Nat.add_mul] at this ⊢
    omega
theorem ev_path {t : Tp} {m : Int} {P : W × List W → Prop} (h0 : 0 ≤ m) (h1 : m ≤ 100) (k : ∀ (t' : Tp) (z : List Nat), drawnPath m z → P (.v (.str z), [.l t'.l, .v (.int m)])) : Ev (F_law_path [.l t.l, .v (.int m)]) (tg P) := by
  unfold F_law_path S_law_path
  simp
  refine ev_draw (by decide) (by decide) fun t1 r1 a1 b1 => ?_
  simp
  refine ev_pickM (mk := D.str) (xs := [[], [47]]) (by omega) (by simp; omega) fun front hf => ?_
  simp
  refine ev_draw (by decide) (by decide) fun t2 r2 a2 b2 => ?_
  simp
  refine ev_draw (by omega) (by omega) fun t3 r3 a3 b3 => ?_
  have hr3 : r3 < 4611686018427387904 ∧ -4611686018427387904 ≤ r3 := by omega
  simp [hr3]
  obtain ⟨I, hI⟩ : ∃ I : List D → Env → Prop, ∀ rest e, I rest e ↔ ∃ (n : Nat) (t : Tp) (ps : List (List Nat)) (x5 x6 : Option W), rest.length = n ∧ e = [some (.l t.l), some (.v (.int m)), some (.v (.str front)), some (.l (ps.map D.str)), some (.v (.int r2)), x5, x6] ∧ (ps.length + n : Int) ≤ m ∧ ∀ p ∈ ps, p ∈ toks := ⟨_, fun _ _ => Iff.rfl⟩
  refine ev_forR I ((hI _ _).mpr ⟨r3.toNat, t3, [], none, none, by simp [rngD], rfl, by simp; omega, by simp⟩) (fun d rest e h => ?_) (fun e h => ?_)
  · obtain ⟨n, t, ps, x5, x6, h2, rfl, h3, h4⟩ := (hI _ _).mp h
    simp at h2
    simp
    refine ev_pickM (mk := D.int) (xs := [3, 8, 6]) a2 (by simpa using b2) fun w hw => ?_
    have hw : 0 < w ∧ w ≤ 8 := by simp at hw; omega
    simp
    refine ev_draw hw.1 (by omega) fun t4 r4 a4 b4 => ?_
    simp
    refine ev_pickM (mk := D.str) (xs := toks) a4 (by simp [toks]; omega) fun p hp => ?_
    have hl : ps.length < 16777216 := by omega
    simp [hl]
    refine (hI _ _).mpr ⟨rest.length, t4, ps ++ [p], some (.v d), some (.v (.str p)), rfl, by simp, by simp; omega, fun q hq => ?_⟩
    rcases List.mem_append.mp hq with hq | hq
    · exact h4 q hq
    · rw [List.mem_singleton.mp hq]; exact hp
  · obtain ⟨n, t, ps, x5, x6, h2, rfl, h3, h4⟩ := (hI _ _).mp h
    simp
    have hsum := sum_len h4
    have hj := join_len [47] ps
    have e1 : (ps.map List.length).sum + ps.length ≤ 16777216 := by omega
    have hf' : front.length ≤ 1 := by
      simp at hf
      rcases hf with rfl | rfl <;> simp
    have e2 : front.length + (joinD [47] ps).length ≤ 16777216 := by simp at hj; omega
    have fin : (front = [] → ps ≠ []) → P (.v (.str (front ++ joinD [47] ps)), [.l t.l, .v (.int m)]) := fun hne => by
      refine k t _ ⟨decide (front = [47]), ps, ?_, by omega, h4, fun hd => hne ?_⟩
      · simp at hf
        rcases hf with rfl | rfl <;> simp
      · simp at hf hd
        rcases hf with rfl | rfl
        · rfl
        · exact absurd rfl hd
    refine ⟨fun hfr => ?_, fun hfr => ?_⟩
    · simp
      refine ⟨fun hps => ?_, fun hps => ?_⟩
      · subst hfr
        have hps : ps = [] := by simpa using hps
        subst hps
        simp [joinD]
        exact k t [46] ⟨false, [[46]], rfl, by simp; omega, by simp [toks], by simp⟩
      · simp [e1, e2]
        exact fin fun _ => by simpa using hps
    · simp [e1, e2]
      exact fin fun z => absurd z hfr
end PD

set_option Elab.async false
set_option linter.all false
set_option maxRecDepth 100000
set_option maxHeartbeats 400000
namespace PD
open PySem PySem.Spec L2
open PyProof.Rows hiding St
/-- data of the law's own making: nested at most n deep, texts and lists at most L long -/
def thg : Nat → Nat → D → Bool
  | _, _, .non => true
  | _, _, .bl _ => true
  | _, _, .int _ => true
  | _, L, .str z => decide (z.length ≤ L)
  | n + 1, L, .lst xs => decide (xs.length ≤ L) && xs.all (thg n L)
  | n + 1, L, .tup xs => decide (xs.length ≤ L) && xs.all (thg n L)
  | _, _, _ => false
theorem thg_lst {n L : Nat} {xs : List D} : thg (n + 1) L (.lst xs) = (decide (xs.length ≤ L) && xs.all (thg n L)) := by rw [thg]
theorem thg_tup {n L : Nat} {xs : List D} : thg (n + 1) L (.tup xs) = (decide (xs.length ≤ L) && xs.all (thg n L)) := by rw [thg]
theorem thg_str {n L : Nat} {z : List Nat} : thg n L (.str z) = decide (z.length ≤ L) := by cases n <;> rfl
theorem thg_int {n L : Nat} {i : Int} : thg n L (.int i) = true := by cases n <;> rfl
theorem thg_mono : ∀ {n n' L L' : Nat} {d : D}, thg n L d = true → n ≤ n' → L ≤ L' → thg n' L' d = true := by
  intro n
  induction n with
  | zero =>
    intro n' L L' d h h1 h2
    cases d with
    | non => cases n' <;> rfl
    | bl _ => cases n' <;> rfl
    | int _ => cases n' <;> rfl
    | str z => rw [thg_str] at h ⊢; simp at h ⊢; omega
    | _ => cases h
  | succ n ih =>
    intro n' L L' d h h1 h2
    obtain ⟨n', rfl⟩ : ∃ j, n' = j + 1 := ⟨n' - 1, by omega⟩
    cases d with
    | non => rfl
    | bl _ => rfl
    | int _ => rfl
    | str z => rw [thg_str] at h ⊢; simp at h ⊢; omega
    | lst xs =>
      rw [thg_lst] at h ⊢
      simp at h ⊢
      exact ⟨by omega, fun x hx => ih (h.2 x hx) (by omega) h2⟩
    | tup xs =>
      rw [thg_tup] at h ⊢
      simp at h ⊢
      exact ⟨by omega, fun x hx => ih (h.2 x hx) (by omega) h2⟩
    | dic _ => cases h
    | scr _ => cases h
theorem any_s {k : Nat} : F_law_any (k + 1) = runB 5 2 true (S_law_any (F_law_any k)) := rfl
theorem ev_lany : ∀ (k : Nat) {t : Tp} {n : Nat} {P : W × List W → Prop}, n < k → (∀ (t' : Tp) (w : W), thg (n + 1) 6 w.d = true → P (w, [.l t'.l, .v (.int n)])) → Ev (F_law_any k [.l t.l, .v (.int n)]) (tg P) := by
  intro k
  induction k with
  | zero => intro t n P h; omega
  | succ k ih =>
    intro t n P hn fin
    rw [any_s]
    unfold S_law_any
    simp
    refine ev_draw (by decide) (by decide) fun t1 r1 a1 b1 => ?_
    simp
    refine ⟨fun h1 => ?_, fun h1 => ?_⟩
    · simp
      refine ⟨fun h2 => ?_, fun h2 => ?_⟩
      · simp
        obtain ⟨n, rfl⟩ : ∃ j, n = j + 1 := ⟨n - 1, by omega⟩
        refine ev_draw (by decide) (by decide) fun t2 r2 a2 b2 => ?_
        have hr2 : r2 < 4611686018427387904 ∧ -4611686018427387904 ≤ r2 := by omega
        simp [hr2]
        refine ev_lcR (fun rest a e => rest.length + a.length ≤ 3 ∧ (∀ x ∈ a, thg (n + 1) 6 x = true) ∧ ∃ t : Tp, e = [some (.l t.l), some (.v (.int (n + 1 : Nat))), some (.v (.int r1)), none, none]) ⟨by simp [rngD]; omega, by simp, t2, rfl⟩ (fun d rest a e h => ?_) (fun a e h => ?_)
        · obtain ⟨h3, h4, t3, rfl⟩ := h
          simp
          refine ih (by omega) fun t4 w hw => ?_
          simp at h3
          simp
          exact ⟨by omega, by omega, fun x hx => hx.elim (h4 x) fun e => by rw [e]; exact hw, t4, rfl⟩
        · obtain ⟨h3, h4, t3, rfl⟩ := h
          have fin' : ∀ (t' : Tp) (w : W), thg (n + 1 + 1) 6 w.d = true → P (w, [.l t'.l, .v (.int ((n : Int) + 1))]) := fun t' w hw => by simpa using fin t' w hw
          simp
          refine ev_pick (xs := [D.lst a, D.tup a, D.tup a, D.tup a]) a1 (by simpa using h1) fun d hd => ?_
          simp
          refine fin' t3 _ ?_
          have hl : a.length ≤ 6 := by simp at h3; omega
          simp at hd
          rcases hd with rfl | rfl <;> simp [thg_lst, thg_tup, hl] <;> exact h4
      · have hn0 : n = 0 := by omega
        subst hn0
        have h8 : r1 < 8 := by omega
        have h9 : max 0 (r1 - 4) = 0 := by omega
        simp [h8]
        refine ev_draw (by decide) (by decide) fun t2 r2 a2 b2 => ?_
        simp
        refine ev_draw (by decide) (by decide) fun t3 r3 a3 b3 => ?_
        simp
        refine ev_pick (xs := [D.int (r2 - 2), D.int r3, D.int 0, D.int 3]) (by split <;> omega) (by simp; split <;> omega) fun d hd => ?_
        simp
        refine fin t3 (.v d) ?_
        simp at hd
        rcases hd with rfl | rfl | rfl | rfl <;> rfl
    · simp
      refine ⟨fun h2 => ?_, fun h2 => ?_⟩
      · simp
        refine ev_draw (by decide) (by decide) fun t2 r2 a2 b2 => ?_
        simp
        refine ev_draw (by decide) (by decide) fun t3 r3 a3 b3 => ?_
        simp
        refine ev_pick (xs := [D.int (r2 - 2), D.int r3, D.int 0, D.int 3]) (by split <;> omega) (by simp; split <;> omega) fun d hd => ?_
        simp
        refine fin t3 (.v d) ?_
        simp at hd
        rcases hd with rfl | rfl | rfl | rfl <;> rfl
      · simp
        refine ev_draw (by decide) (by decide) fun t2 r2 a2 b2 => ?_
        simp
        refine ev_pickM (mk := D.str) (xs := [[], [32], [97], [47], [47, 97], [97, 47, 47, 98], [47, 97, 10, 98]]) a2 (by simpa using b2) fun z hz => ?_
        simp
        refine ev_pick (xs := [D.bl true, D.bl false, D.non, D.str z, D.tup [D.int 1, D.int 2]]) (by omega) (by simp; omega) fun d hd => ?_
        simp
        refine fin t2 (.v d) ?_
        have hz : z.length ≤ 6 := (by decide : ∀ z ∈ ([[], [32], [97], [47], [47, 97], [97, 47, 47, 98], [47, 97, 10, 98]] : List (List Nat)), z.length ≤ 6) z hz
        simp at hd
        rcases hd with rfl | rfl | rfl | rfl | rfl
        · rfl
        · rfl
        · rfl
        · show thg _ _ (.str z) = true
          rw [thg_str]; simpa using hz
        · show thg _ _ (.tup _) = true
          rw [thg_tup]; simp [thg_int]
end PD

set_option Elab.async false
set_option linter.all false
set_option maxRecDepth 100000
set_option maxHeartbeats 1000000
namespace PD
open PySem PySem.Spec L2
open PyProof.Rows hiding St
theorem spoilt_s {k : Nat} : F_law_spoilt (k + 1) = runB 6 2 true (S_law_spoilt (F_law_spoilt k)) := rfl
section
variable {n L : Nat} {self : FnV} {t : Tp} {w : W} {o2 o3 o4 o5 : Option W} {R : Fl × Env → Prop}
abbrev Good (n L : Nat) (R : Fl × Env → Prop) : Prop := ∀ (t' : Tp) (w' : W) r, thg (n + 3) (L + 8) w'.d = true → R (.rt w', some (.l t'.l) :: r)
theorem sp2 (hR : Good n L R) : Ev (S_law_spoilt_s2 self [some (.l t.l), some w, o2, o3, o4, o5]) (tg R) := by
  unfold S_law_spoilt_s2
  simp
  refine ev_lany (n := 2) 4 (by omega) fun t' w' h => ?_
  exact hR t' _ _ (thg_mono h (by omega) (by omega))
theorem thg_sw {n L : Nat} {xs : List D} (h : thg n L (.tup xs) = true) : thg n L (.lst xs) = true := by
  cases n with
  | zero => cases h
  | succ n => rw [thg_tup] at h; rw [thg_lst]; exact h
theorem thg_ws {n L : Nat} {xs : List D} (h : thg n L (.lst xs) = true) : thg n L (.tup xs) = true := by
  cases n with
  | zero => cases h
  | succ n => rw [thg_lst] at h; rw [thg_tup]; exact h
theorem thg_scr {n L : Nat} {d : D} (h : thg n L d = true) : notScr d = true := by
  cases d <;> first | rfl | (cases n <;> cases h)
theorem sp3 (hw : w.isV = true) (hd : thg n L w.d = true) (hR : Good n L R) : Ev (S_law_spoilt_s3 self [some (.l t.l), some w, o2, o3, o4, o5]) (tg R) := by
  have up : ∀ {d : D}, thg n L d = true → thg (n + 3) (L + 8) d = true := fun h => thg_mono h (by omega) (by omega)
  unfold S_law_spoilt_s3
  have hs := thg_scr hd
  cases w with
  | l _ => cases hw
  | k _ => cases hw
  | t xs =>
    simp
    refine ev_draw (by decide) (by decide) fun t1 r1 a1 b1 => ?_
    simp
    refine ⟨fun h => ?_, fun h => ?_⟩
    · simp
      exact hR _ (.l xs) _ (up (thg_sw hd))
    · simp
      exact sp2 hR
  | v d =>
    cases d with
    | tup xs =>
      simp
      refine ev_draw (by decide) (by decide) fun t1 r1 a1 b1 => ?_
      simp
      refine ⟨fun h => ?_, fun h => ?_⟩
      · simp
        exact hR _ (.l xs) _ (up (thg_sw hd))
      · simp
        exact sp2 hR
    | lst xs =>
      simp
      refine ev_draw (by decide) (by decide) fun t1 r1 a1 b1 => ?_
      simp
      refine ⟨fun h => ?_, fun h => ?_⟩
      · simp
        exact hR _ (.v (.tup xs)) _ (up (thg_ws hd))
      · simp
        exact sp2 hR
    | scr _ => cases hs
    | _ =>
      simp
      exact sp2 hR
theorem sp4 (hL : L ≤ 10000) (hw : w.isV = true) (hd : thg n L w.d = true) (hR : Good n L R) : Ev (S_law_spoilt_s4 self [some (.l t.l), some w, o2, o3, o4, o5]) (tg R) := by
  unfold S_law_spoilt_s4
  have hs := thg_scr hd
  by_cases hz : ∃ z, w = .v (.str z)
  · obtain ⟨z, rfl⟩ := hz
    have hz : z.length ≤ L := by rw [W.d_v, thg_str] at hd; simpa using hd
    simp
    refine ev_draw (by decide) (by decide) fun t1 r1 a1 b1 => ?_
    simp
    refine ⟨fun h => ?_, fun h => ?_⟩
    · simp
      refine ev_draw (by omega) (by omega) fun t2 r2 a2 b2 => ?_
      simp
      refine ev_draw (by decide) (by decide) fun t3 r3 a3 b3 => ?_
      simp
      refine ev_pickM (mk := D.str) (xs := [[32], [122], [65], [124], [97, 98, 99, 100, 101, 102, 103, 104], []]) a3 (by simpa using b3) fun y hy => ?_
      have hy : y.length ≤ 8 := (by decide : ∀ y ∈ ([[32], [122], [65], [124], [97, 98, 99, 100, 101, 102, 103, 104], []] : List (List Nat)), y.length ≤ 8) y hy
      obtain ⟨j, rfl⟩ : ∃ j : Nat, r2 = j := ⟨r2.toNat, by omega⟩
      have e1 : (cutG z none (some (j : Int))).length = j := by rw [cut_to]; simp; omega
      have e2 : (cutG z (some (j : Int)) none).length = z.length - j := by rw [cut_from]; simp
      have q1 : j + y.length ≤ 16777216 := by omega
      have q2 : j + (y.length + (z.length - j)) ≤ 16777216 := by omega
      simp [e1, e2, q1]
      refine ⟨by omega, hR _ _ _ ?_⟩
      rw [W.d_v, thg_str]
      simp [e1, e2]
      omega
    · simp
      exact sp3 rfl hd hR
  · cases w with
    | l _ => cases hw
    | k _ => cases hw
    | t xs => simp; exact sp3 rfl hd hR
    | v d =>
      cases d with
      | str z => exact absurd ⟨z, rfl⟩ hz
      | scr _ => cases hs
      | _ => simp; exact sp3 rfl hd hR
theorem sp5 (hL : L ≤ 10000) (hw : w.isV = true) (hd : thg n L w.d = true) (hR : Good n L R) : Ev (S_law_spoilt_s5 self [some (.l t.l), some w, o2, o3, o4, o5]) (tg R) := by
  unfold S_law_spoilt_s5
  have hs := thg_scr hd
  cases w with
  | l _ => cases hw
  | k _ => cases hw
  | t xs =>
    have : F_law_whole [.t xs] = some (.v (.bl false), [.t xs]) := by
      refine Ev.eqn ?_
      unfold F_law_whole S_law_whole
      simp
    simp [this]
    exact sp4 hL rfl hd hR
  | v d =>
    have hq := whole_eq (d := d) hs
    cases d with
    | int i =>
      simp [hq]
      refine ev_draw (by decide) (by decide) fun t1 r1 a1 b1 => ?_
      simp
      refine ⟨fun h => ?_, fun h => ?_⟩
      · simp
        refine ev_draw (by decide) (by decide) fun t2 r2 a2 b2 => ?_
        simp
        refine ev_pickM (mk := D.int) (xs := [1, -1, 2, -2, 9, 1000]) a2 (by simpa using b2) fun y hy => ?_
        simp
        exact hR _ _ _ (by rw [W.d_v, thg_int])
      · simp
        exact sp4 hL rfl hd hR
    | scr _ => cases hs
    | _ =>
      simp [hq]
      exact sp4 hL rfl hd hR
theorem ev_spoilt : ∀ (k : Nat) {t : Tp} {n L : Nat} {w : W} {P : W × List W → Prop}, n < k → L ≤ 10000 → w.isV = true → thg n L w.d = true → (∀ (t' : Tp) (w' : W), thg (n + 3) (L + 8) w'.d = true → P (w', [.l t'.l, w])) → Ev (F_law_spoilt k [.l t.l, w]) (tg P) := by
  intro k
  induction k with
  | zero => intro t n L w P h; omega
  | succ k ih =>
    intro t n L w P hn hL hw hd fin
    rw [spoilt_s, ev_runT, rq_of ⟨rfl, by simp [hw]⟩]
    obtain ⟨R, hR0⟩ : ∃ R : Fl × Env → Prop, ∀ p, R p ↔ ∃ (t' : Tp) (w' : W) (r : Env), p = (.rt w', some (.l t'.l) :: r) ∧ thg (n + 3) (L + 8) w'.d = true := ⟨_, fun _ => Iff.rfl⟩
    have hR : Good n L R := fun t' w' r h => (hR0 _).mpr ⟨t', w', r, rfl, h⟩
    suffices main : Ev (S_law_spoilt (F_law_spoilt k) [some (.l t.l), some w, none, none, none, none]) (tg R) by
      refine main.mono fun p q => ?_
      obtain ⟨t', w', r, rfl, h⟩ := (hR0 _).mp q
      simp
      exact fin t' w' h
    have s5 : ∀ {t : Tp} {o2 o3 o4 o5 : Option W}, Ev (S_law_spoilt_s5 (F_law_spoilt k) [some (.l t.l), some w, o2, o3, o4, o5]) (tg R) := sp5 hL hw hd hR
    have seqc : ∀ (xs : List D), ((w = .v (.lst xs)) ∨ (w = .v (.tup xs)) ∨ (w = .t xs)) → Ev (S_law_spoilt (F_law_spoilt k) [some (.l t.l), some w, none, none, none, none]) (tg R) := fun xs h => by
      have hx : ∃ m, n = m + 1 ∧ xs.length ≤ L ∧ ∀ x ∈ xs, thg m L x = true := by
        cases n with
        | zero => rcases h with rfl | rfl | rfl <;> cases hd
        | succ m =>
          refine ⟨m, rfl, ?_⟩
          have : thg (m + 1) L (.lst xs) = true := by
            rcases h with rfl | rfl | rfl
            · exact hd
            · exact thg_sw hd
            · exact thg_sw hd
          rw [thg_lst] at this
          simpa using this
      obtain ⟨m, rfl, hx1, hx2⟩ := hx
      have fin : ∀ (t' : Tp) (ys : List D) (o2 o4 o5 : Option W) (R : Fl × Env → Prop), Good (m + 1) L R → ys.length ≤ L + 8 → (∀ y ∈ ys, thg (m + 3) (L + 8) y = true) → Ev (S_law_spoilt_s1 (F_law_spoilt k) [some (.l t'.l), some w, o2, some (.l ys), o4, o5]) (tg R) := fun t' ys o2 o4 o5 R hR h1 h2 => by
        have g : thg (m + 1 + 3) (L + 8) (.lst ys) = true := by rw [show m + 1 + 3 = (m + 3) + 1 by omega, thg_lst]; simp; exact ⟨h1, h2⟩
        unfold S_law_spoilt_s1
        rcases h with rfl | rfl | rfl
        · simp
          exact hR t' (.l ys) _ g
        · simp
          exact hR t' (.v (.tup ys)) _ (thg_ws g)
        · simp
          exact hR t' (.v (.tup ys)) _ (thg_ws g)
      unfold S_law_spoilt
      have mem8 : ∀ x ∈ xs, thg (m + 3) (L + 8) x = true := fun x hx => thg_mono (hx2 x hx) (by omega) (by omega)
      have hRr : Good (m + 1) L (fun p => match p.1 with
          | .nx => Ev (S_law_spoilt_s5 (F_law_spoilt k) p.2) (tg R)
          | fl => R (fl, p.2)) := fun t' w' r h => hR t' w' r h
      have setm : ∀ (ys : List D) (j : Nat) (y : D), (∀ x ∈ ys, thg (m + 3) (L + 8) x = true) → thg (m + 3) (L + 8) y = true → ∀ x ∈ ys.set j y, thg (m + 3) (L + 8) x = true := fun ys j y h1 h2 x hx => by
        rcases List.mem_or_eq_of_mem_set hx with h | rfl
        · exact h1 x h
        · exact h2
      rcases h with rfl | rfl | rfl
      all_goals
        simp
        refine ⟨fun h1 => ?_, fun h1 => ?_⟩
        · simp
          refine ev_draw (by decide) (by decide) fun t1 r1 a1 b1 => ?_
          simp
          refine ⟨fun h2 => ?_, fun h2 => ?_⟩
          · simp
            refine ev_draw (by omega) (by omega) fun t2 r2 a2 b2 => ?_
            obtain ⟨j, rfl⟩ : ∃ j : Nat, r2 = j := ⟨r2.toNat, by omega⟩
            have hj : j < xs.length := by omega
            have hx : ixN xs.length (j : Int) = some j := by rw [ixN_lt a2 b2]; rfl
            have he : xs[j]? = some xs[j] := List.getElem?_eq_getElem hj
            have hm : xs[j] ∈ xs := List.getElem_mem hj
            have hj2 : (j : Int) < 9223372036854775808 ∧ -9223372036854775808 ≤ (j : Int) ∧ xs.length < 16777216 := by omega
            simp
            refine ev_draw (by decide) (by decide) fun t3 r3 a3 b3 => ?_
            simp
            refine ⟨fun h3 => ?_, fun h3 => ?_⟩
            · simp [hx, he]
              refine ih (by omega) hL rfl (hx2 _ hm) fun t4 w4 h4 => ?_
              simp [hx]
              exact fin _ _ _ _ _ _ hRr (by simp; omega) (setm _ _ _ mem8 h4)
            · simp
              refine ⟨fun h3 => ?_, fun h3 => ?_⟩
              · simp [hx, he, hj2]
                exact fin _ _ _ _ _ _ hRr (by have := List.length_eraseIdx_le (l := xs) (i := j); omega) fun y hy => mem8 y (List.mem_of_mem_eraseIdx hy)
              · simp
                refine ⟨fun h3 => ?_, fun h3 => ?_⟩
                · simp
                  refine ev_draw (by omega) (by omega) fun t5 r5 a5 b5 => ?_
                  simp
                  refine ev_pick (xs := xs) a5 b5 fun y hy => ?_
                  simp [hj2]
                  refine fin _ _ _ _ _ _ hRr (by simp; omega) fun z hz => ?_
                  simp at hz
                  rcases hz with hz | rfl | hz
                  · exact mem8 z (List.mem_of_mem_take hz)
                  · exact mem8 _ hy
                  · exact mem8 z (List.mem_of_mem_drop hz)
                · simp
                  refine ⟨fun h3 => ?_, fun h3 => ?_⟩
                  · simp
                    exact fin _ _ _ _ _ _ hRr (by simp; omega) fun z hz => mem8 z (by simpa using hz)
                  · simp
                    refine ev_lany (n := 1) 4 (by omega) fun t6 w6 h6 => ?_
                    simp [hj2]
                    refine fin _ _ _ _ _ _ hRr (by simp; omega) fun z hz => ?_
                    simp at hz
                    rcases hz with hz | rfl | hz
                    · exact mem8 z (List.mem_of_mem_take hz)
                    · exact thg_mono h6 (by omega) (by omega)
                    · exact mem8 z (List.mem_of_mem_drop hz)
          · simp
            exact s5
        · simp
          exact s5
    cases w with
    | l _ => cases hw
    | k _ => cases hw
    | t xs => exact seqc xs (.inr (.inr rfl))
    | v d =>
      have hs := thg_scr hd
      cases d with
      | tup xs => exact seqc xs (.inr (.inl rfl))
      | lst xs => exact seqc xs (.inl rfl)
      | scr _ => cases hs
      | _ =>
        unfold S_law_spoilt
        simp
        exact s5
end
end PD


set_option Elab.async false
set_option linter.all false
set_option maxRecDepth 100000
set_option maxHeartbeats 1000000
namespace PD
open PySem PySem.Spec L2
open PyProof.Rows hiding St
def pathB : D → Bool
  | .str z => isPathM z
  | _ => false
theorem is_path_all {d : D} (h : thg 20 1000 d = true) : Fis_path [.v d] = some (.v (.bl (pathB d)), [.v d]) := by
  cases d with
  | str z => exact is_path_eq (by rw [thg_str] at h; simpa using h)
  | scr _ => cases h
  | dic _ => cases h
  | _ =>
    refine Ev.eqn ?_
    unfold Fis_path Sis_path
    simp [pathB]
theorem law_is_path_all {d : D} (h : thg 20 1000 d = true) : F_law_is_path [.v d] = some (.v (.bl (pathB d)), [.v d]) := by
  cases d with
  | str z => rw [law_is_path_eq (by rw [thg_str] at h; simpa using h), lawPath_eq]; rfl
  | scr _ => cases h
  | dic _ => cases h
  | _ =>
    refine Ev.eqn ?_
    unfold F_law_is_path S_law_is_path
    simp [pathB]
theorem like_bl (b : Bool) : F_law_like 8 [.v (.bl b), .v (.bl b)] = some (.v (.bl true), [.v (.bl b), .v (.bl b)]) := like_refl 0 8 _ rfl (by decide)
theorem like_strs (zs : List (List Nat)) (h : zs.length ≤ 1000000) : F_law_like 8 [.v (.lst (zs.map .str)), .v (.lst (zs.map .str))] = some (.v (.bl true), [.v (.lst (zs.map .str)), .v (.lst (zs.map .str))]) := by
  refine like_refl 1 8 _ ?_ (by decide)
  rw [fine_lst]
  simp [h]
  intro z _
  rfl
theorem sum_tok : ∀ {ps : List (List Nat)}, (∀ p ∈ ps, p ∈ toks) → (joinD [47] ps).length ≤ 3 * ps.length := fun {ps} h => by
  have h1 := sum_len h
  have h2 := join_len [47] ps
  simp at h2
  omega
theorem drawn_len {m : Int} {z : List Nat} (h : drawnPath m z) (hm : 1 ≤ m) : (z.length : Int) ≤ 3 * m + 1 := by
  obtain ⟨a, ps, rfl, h1, h2, _⟩ := h
  have := sum_tok h2
  cases a <;> simp <;> omega
theorem len_37 {n : Nat} (h : (n : Int) ≤ 3 * 12 + 1) : n ≤ 37 := by omega
theorem drawn_37 {z : List Nat} (h : drawnPath 12 z) : z.length ≤ 37 := len_37 (drawn_len h (by decide))
theorem dA {n : Nat} (h : n ≤ 37) : 0 < (n : Int) + 1 ∧ (n : Int) + 1 < 18446744073709551616 := by omega
theorem dB {r : Int} {n : Nat} (h : 0 ≤ r) (h2 : r < (n : Int) + 1) : ∃ j : Nat, r = j ∧ j ≤ n := ⟨r.toNat, by omega, by omega⟩
theorem chars_thg {z : List Nat} (h : z.length ≤ 37) : ∀ k, thg (k + 1) 1000 (.lst (z.map fun c => D.str [c])) = true := fun k => by
  rw [thg_lst, Bool.and_eq_true, decide_eq_true_eq, List.all_eq_true]
  refine ⟨by simp; omega, fun x hx => ?_⟩
  obtain ⟨c, _, rfl⟩ := List.mem_map.mp hx
  rw [thg_str]; rfl
/-- one thing of the law's list -/
theorem thing_ok {d : D} (hd : thg 20 1000 d = true) {e0 e1 e2 e3 e4 e5 e6 o7 o8 : Option W} {R : Fl × Env → Prop} (k : ∀ o7 o8, R (.nx, [e0, e1, e2, e3, e4, e5, e6, o7, o8])) :
    Ev (gtName 7 d [e0, e1, e2, e3, e4, e5, e6, o7, o8]) (tg fun e => Ev (Slaw_b3 e) (tg R)) := by
  unfold Slaw_b3 Slaw_s2
  simp [law_is_path_all hd, is_path_all hd, like_bl]
  refine ⟨fun hg => ?_, fun hg => ?_⟩
  · obtain ⟨z, rfl⟩ : ∃ z, d = .str z := by
      cases d <;> first | exact ⟨_, rfl⟩ | cases hg
    have hz : z.length ≤ 1000 := by rw [thg_str] at hd; simpa using hd
    have hg : isPathM z = true := hg
    have h0 : z ≠ [] := by rintro rfl; cases hg
    have hp := partsM_len z
    simp [parts_eq hz, law_split_eq h0 hz, split_parts z hg, like_strs (partsM z) (by omega)]
    exact k _ _
  · simp
    exact k _ _
theorem main (ns : List Int) (hn : ns.length ≤ 63) : ∃ ws, Flaw [.v (.scr (ns.map D.int))] = some (.v (.bl true), ws) := by
  suffices h : Ev (Flaw [.v (.scr (ns.map D.int))]) (tg fun r => r.1 = .v (.bl true)) by
    obtain ⟨⟨w, ws⟩, e, q⟩ := h.ex
    exact ⟨ws, by rw [e]; simp at q; rw [q]⟩
  obtain ⟨s, hs⟩ : ∃ s, s = D.scr (ns.map D.int) := ⟨_, rfl⟩
  have t0 : ∃ t : Tp, t.l = [D.lst (ns.map D.int), D.int 0, D.int 0] := ⟨⟨ns, 0, 0, hn, by decide, by decide⟩, rfl⟩
  obtain ⟨t0, ht0⟩ := t0
  unfold Flaw Slaw
  simp
  rw [← ht0, ← hs]
  obtain ⟨I, hI⟩ : ∃ I : Env → Prop, ∀ e, I e ↔ ∃ (t : Tp) (o2 o3 o4 o5 o6 o7 o8 : Option W), e = [some (.v s), some (.l t.l), o2, o3, o4, o5, o6, o7, o8] := ⟨_, fun _ => Iff.rfl⟩
  refine ev_forA I (fun _ => True) (fun _ _ => trivial) ((hI _).mpr ⟨t0, _, _, _, _, _, _, _, rfl⟩) ?_ ?_
  · intro d e _ he
    obtain ⟨t, o2, o3, o4, o5, o6, o7, o8, rfl⟩ := (hI _).mp he
    unfold Slaw_b5
    simp
    refine ev_path (by decide) (by decide) ?_
    intro t1 z hz
    have zl0 := drawn_37 hz
    clear hz
    simp
    refine ev_draw (dA zl0).1 (dA zl0).2 ?_
    intro t2 r2 a2 b2
    obtain ⟨j, rfl, hj⟩ := dB a2 b2
    simp
    obtain ⟨I2, hI2⟩ : ∃ I2 : List D → Env → Prop, ∀ r e, I2 r e ↔ ∃ (ds : List D) (o6 : Option W), e = [some (.v s), some (.l t2.l), some (.v d), some (.v (.str z)), some (.v (.int (j : Int))), some (.l ds), o6, o7, o8] ∧ ds.length + 2 * r.length ≤ 100 ∧ (∀ x ∈ ds, thg 20 1000 x = true) ∧ (∀ x ∈ r, ∃ y, x = .str y ∧ y.length ≤ 1) := ⟨_, fun _ _ => Iff.rfl⟩
    refine ev_forR I2 ((hI2 _ _).mpr ⟨_, _, rfl, by simp, ?_, ?_⟩) ?_ ?_
    · have zl : z.length ≤ 1000 := Nat.le_trans zl0 (by decide)
      have q0' := chars_thg zl0 19
      simp at q0'
      simp [thg_str, thg_tup, thg_int, zl, q0']
      decide
    · simp
    · intro x r e h
      obtain ⟨ds, o6, rfl, h1, h2, h3⟩ := (hI2 _ _).mp h
      obtain ⟨y, rfl, hy⟩ := h3 x List.mem_cons_self
      have c1 : (cutG z none (some (j : Int))).length = j := by rw [cut_to]; simp; omega
      have c2 : (cutG z (some (j : Int)) none).length = z.length - j := by rw [cut_from]; simp
      have c3 : (cutG z (some ((j : Int) + 1)) none).length = z.length - (j + 1) := by
        have := cut_from z (j + 1)
        simp at this
        rw [this]; simp
      simp at h1
      unfold Slaw_b1
      have c4 : j + y.length ≤ 16777216 := by omega
      have c5 : j + y.length + (z.length - j) ≤ 16777216 := by omega
      have c6 : j + y.length + (z.length - (j + 1)) ≤ 16777216 := by omega
      have c7 : ds.length + 2 ≤ 16777216 := by omega
      simp [c1, c2, c3, c4, c5, c6, c7]
      refine (hI2 _ _).mpr ⟨_, _, rfl, by simp; omega, fun x hx => ?_, fun x hx => h3 x (List.mem_cons_of_mem _ hx)⟩
      simp at hx
      rcases hx with hx | rfl | rfl
      · exact h2 x hx
      · rw [thg_str]; simp [c1, c2]; omega
      · rw [thg_str]; simp [c1, c3]; omega
    · intro e h
      obtain ⟨ds, o6, rfl, h1, h2, h3⟩ := (hI2 _ _).mp h
      unfold Slaw_s4
      simp
      refine ev_spoilt (n := 1) (L := 200) 4 (by decide) (by decide) rfl ?_ ?_
      · rw [W.d_t, thg_tup]; simp [thg_str]; omega
      intro t3 w3 hw3
      simp
      refine ev_lany (n := 2) 4 (by decide) ?_
      intro t4 w4 hw4
      simp at h1
      have c8 : ds.length + 2 ≤ 16777216 := by omega
      simp [c8]
      refine ev_forA I (fun x => thg 20 1000 x = true) (fun x hx => ?_) ((hI _).mpr ⟨_, _, _, _, _, _, _, _, rfl⟩) (fun x e hx he => ?_) (fun e he => he)
      · simp at hx
        rcases hx with hx | rfl | rfl
        · exact h2 x hx
        · exact thg_mono hw3 (by omega) (by omega)
        · exact thg_mono hw4 (by omega) (by omega)
      · obtain ⟨t, o2, o3, o4, o5, o6, o7, o8, rfl⟩ := (hI _).mp he
        exact thing_ok hx fun o7 o8 => (hI _).mpr ⟨_, _, _, _, _, _, _, _, rfl⟩
  · intro e he
    obtain ⟨t, o2, o3, o4, o5, o6, o7, o8, rfl⟩ := (hI _).mp he
    unfold Slaw_s6
    have h1 : isPathM [46, 47, 120] = true := by decide
    have h2 : partsM [47] = [] := by decide
    simp [is_path_eq, parts_eq, gIs, h1, h2]
end PD

theorem PySem.Challenge.cw_linkpaths_k01_path_values_holds : PySem.Challenge.rw_linkpaths_k01_path_values.Holds :=
  holds_of PD.main
