import PyProof.Rows.All
import Wide.All
import OpenK.AllK
import Wide.FinOn
import HandS.ForMost
import HandS.ForExc
import HandS.CallSlots
import HandS.Star
import HandS.IsInst
import HandS.OwnEq
import HandS.OwnIter
import HandS.IterNext
import HandS.RaiseMore
import KE.KOpsOwn
import HandS.Flow
import PySem.Challenge.RW_redomarks_k51_sets_of_their_own
set_option Elab.async false
set_option linter.all false
set_option maxRecDepth 100000
set_option maxHeartbeats 4000000
/-! # DL: a layer of plain data over the hand layer: what never changes is data (D), what changes stands in a small store (Mu) by its address -/
namespace DL
open PySem L2

/-- plain data: what a value stands for; adr: an object of the store (or a class, a def) by its address -/
inductive D where
  | non | bl (b : Bool) | int (i : Int) | str (x : Str) | ty (n : String) | adr (a : Addr)
  | lst (xs : List D) | tup (xs : List D) | ktup (xs : List D) | fro (xs : List D)
  | dK (kvs : List (Key × D)) | dT (kvs : List (List Key × D))
  | ins (C : Addr) (fs : List (Str × D))
/-- an object that changes -/
inductive MO where
  | lst (xs : List D) | dK (kvs : List (Key × D)) | dT (kvs : List (List Key × D)) | ins (C : Addr) (fs : List (Str × D))
abbrev Mu := Addr → Option MO
def updM (μ : Mu) (a : Addr) (o : MO) : Mu := fun b => if b = a then some o else μ b
def delM (μ : Mu) (a : Addr) : Mu := fun b => if b = a then none else μ b
theorem updM_same {μ : Mu} {a : Addr} {o : MO} : updM μ a o a = some o := by unfold updM; rw [if_pos rfl]
theorem updM_ne {μ : Mu} {a b : Addr} {o : MO} (h : b ≠ a) : updM μ a o b = μ b := by unfold updM; rw [if_neg h]
theorem updM_updM {μ : Mu} {a : Addr} {o u : MO} : updM (updM μ a o) a u = updM μ a u := by
  funext b; unfold updM; split <;> rfl
theorem updM_self {μ : Mu} {a : Addr} {o : MO} (h : μ a = some o) : updM μ a o = μ := by
  funext b; unfold updM; split
  · rename_i e; rw [e, h]
  · rfl
theorem updM_comm {μ : Mu} {a b : Addr} {o u : MO} (h : a ≠ b) : updM (updM μ a o) b u = updM (updM μ b u) a o := by
  funext c; unfold updM; split
  · rename_i e; subst e; rw [if_neg (Ne.symm h)]
  · rfl
theorem delM_updM {μ : Mu} {a : Addr} {o : MO} (h : μ a = none) : delM (updM μ a o) a = μ := by
  funext b; unfold delM updM; split
  · rename_i e; rw [e, h]
  · rfl
theorem updM_upd2 {μ : Mu} {a b : Addr} {o u v : MO} (h : a ≠ b) : updM (updM (updM μ a o) b u) a v = updM (updM μ a v) b u := by
  rw [updM_comm (μ := updM μ a o) (Ne.symm h), updM_updM]
theorem delM_upd2 {μ : Mu} {a b : Addr} {o u : MO} (h : a ≠ b) (hn : μ b = none) : delM (updM (updM μ b u) a o) b = updM μ a o := by
  funext c; unfold delM updM
  by_cases e : c = b
  · subst e; rw [if_pos rfl, if_neg (Ne.symm h), hn]
  · rw [if_neg e]; split
    · rfl
    · first | rfl | rw [if_neg e]
theorem mu_ne {μ : Mu} {a b : Addr} {o : MO} (h : μ a = some o) (h' : μ b = none) : a ≠ b := by
  intro e; subst e; rw [h] at h'; cases h'
theorem mu_ne' {μ : Mu} {a b : Addr} {o : MO} (h : μ a = some o) (h' : μ b = none) : b ≠ a := fun e => mu_ne h h' e.symm

/-- v stands for d, in the part S of the abstract heap that never changes -/
inductive At (K : PySem.W.Frag) (S : Hp) : V → D → Prop
  | non : At K S .non .non
  | bl (b : Bool) : At K S (.bl b) (.bl b)
  | int (i : Int) : At K S (.int i) (.int i)
  | str (x : Str) : At K S (.str x) (.str x)
  | ty (n : String) : At K S (.ty n) (.ty n)
  | adr (a : Addr) : At K S (.ref a) (.adr a)
  | lst {p : Addr} {vs : List V} {ds : List D} (h : S p = some (.lst vs)) (hl : vs.length = ds.length) (hi : ∀ (i : Nat) v d, vs[i]? = some v → ds[i]? = some d → At K S v d) : At K S (.ref p) (.lst ds)
  | tup {p : Addr} {vs : List V} {ds : List D} (h : S p = some (.tup vs)) (hl : vs.length = ds.length) (hi : ∀ (i : Nat) v d, vs[i]? = some v → ds[i]? = some d → At K S v d) : At K S (.ref p) (.tup ds)
  | ktup {p : Addr} {vs : List V} {ds : List D} (h : SqT K S p vs) (hl : vs.length = ds.length) (hi : ∀ (i : Nat) v d, vs[i]? = some v → ds[i]? = some d → At K S v d) : At K S (.ref p) (.ktup ds)
  | fro {p : Addr} {vs : List V} {ds : List D} (h : SqL K S p vs) (hl : vs.length = ds.length) (hi : ∀ (i : Nat) v d, vs[i]? = some v → ds[i]? = some d → At K S v d) : At K S (.ref p) (.fro ds)
  | dK {p : Addr} {kvs : List (Key × V)} {es : List (Key × D)} (h : S p = some (.dK kvs)) (hk : kvs.map (·.1) = es.map (·.1)) (hi : ∀ (i : Nat) v d, (kvs.map (·.2))[i]? = some v → (es.map (·.2))[i]? = some d → At K S v d) : At K S (.ref p) (.dK es)
  | dT {p : Addr} {kvs : List (List Key × V)} {es : List (List Key × D)} (h : S p = some (.dT kvs)) (hk : kvs.map (·.1) = es.map (·.1)) (hi : ∀ (i : Nat) v d, (kvs.map (·.2))[i]? = some v → (es.map (·.2))[i]? = some d → At K S v d) : At K S (.ref p) (.dT es)
  | ins {p C dx : Addr} {fs : List (Str × V)} {gs : List (Str × D)} (h : S p = some (.ins C dx fs)) (hk : fs.map (·.1) = gs.map (·.1)) (hi : ∀ (i : Nat) v d, (fs.map (·.2))[i]? = some v → (gs.map (·.2))[i]? = some d → At K S v d) : At K S (.ref p) (.ins C gs)

def Le (S S' : Hp) : Prop := ∀ a o, S a = some o → S' a = some o
theorem Le.refl (S : Hp) : Le S S := fun _ _ h => h
theorem Le.trans {S S1 S2 : Hp} (a : Le S S1) (b : Le S1 S2) : Le S S2 := fun x o h => b x o (a x o h)
theorem Le.new {S : Hp} {p : Addr} {o : HO} (h : S p = none) : Le S (upd S p o) := fun a u e => by
  rw [upd_ne (ne_of_none e h)]; exact e
theorem Le.rd {S S' : Hp} (e : Le S S') {a : Addr} {u : HO} (h : Rd S a u) : Rd S' a u := h.elim (fun h => .inl (e _ _ h)) fun ⟨o, h⟩ => .inr ⟨o, e _ _ h⟩
theorem Le.sqT {K : PySem.W.Frag} {S S' : Hp} (e : Le S S') {a : Addr} {xs : List V} (h : SqT K S a xs) : SqT K S' a xs := h.elim (fun h => .inl (e.rd h)) .inr
theorem Le.sqL {K : PySem.W.Frag} {S S' : Hp} (e : Le S S') {a : Addr} {xs : List V} (h : SqL K S a xs) : SqL K S' a xs := h.elim (fun h => .inl (e.rd h)) .inr
theorem At.mono {K : PySem.W.Frag} {S S' : Hp} (e : Le S S') {v : V} {d : D} (h : At K S v d) : At K S' v d := by
  induction h with
  | non => exact .non
  | bl b => exact .bl b
  | int i => exact .int i
  | str x => exact .str x
  | ty n => exact .ty n
  | adr a => exact .adr a
  | lst h hl _ ih => exact .lst (e _ _ h) hl ih
  | tup h hl _ ih => exact .tup (e _ _ h) hl ih
  | ktup h hl _ ih => exact .ktup (e.sqT h) hl ih
  | fro h hl _ ih => exact .fro (e.sqL h) hl ih
  | dK h hk _ ih => exact .dK (e _ _ h) hk ih
  | dT h hk _ ih => exact .dT (e _ _ h) hk ih
  | ins h hk _ ih => exact .ins (e _ _ h) hk ih

/-- item by item -/
def AtL (K : PySem.W.Frag) (S : Hp) (vs : List V) (ds : List D) : Prop := vs.length = ds.length ∧ ∀ (i : Nat) v d, vs[i]? = some v → ds[i]? = some d → At K S v d
section
variable {K : PySem.W.Frag} {S S' : Hp} {vs ws : List V} {ds es : List D} {v : V} {d : D}
theorem AtL.mono (e : Le S S') (h : AtL K S vs ds) : AtL K S' vs ds := ⟨h.1, fun i v d a b => (h.2 i v d a b).mono e⟩
theorem AtL.nil : AtL K S [] [] := ⟨rfl, fun i v d a _ => by simp at a⟩
theorem AtL.cons (h : At K S v d) (t : AtL K S vs ds) : AtL K S (v :: vs) (d :: ds) := by
  refine ⟨by simp [t.1], fun i w e a b => ?_⟩
  cases i with
  | zero => simp at a b; subst a; subst b; exact h
  | succ i => simp at a b; exact t.2 i w e a b
theorem AtL.head (t : AtL K S (v :: vs) (d :: ds)) : At K S v d := t.2 0 v d rfl rfl
theorem AtL.tail (t : AtL K S (v :: vs) (d :: ds)) : AtL K S vs ds := ⟨by simpa using t.1, fun i w e a b => t.2 (i + 1) w e (by simpa using a) (by simpa using b)⟩
theorem AtL.get {i : Nat} (t : AtL K S vs ds) (h : ds[i]? = some d) : ∃ v, vs[i]? = some v ∧ At K S v d := by
  have hi := (List.getElem?_eq_some_iff.mp h).1
  have hi' : i < vs.length := by rw [t.1]; exact hi
  exact ⟨vs[i], List.getElem?_eq_getElem hi', t.2 i _ _ (List.getElem?_eq_getElem hi') h⟩
theorem AtL.get' {i : Nat} (t : AtL K S vs ds) (h : vs[i]? = some v) : ∃ d, ds[i]? = some d ∧ At K S v d := by
  have hi := (List.getElem?_eq_some_iff.mp h).1
  have hi' : i < ds.length := by rw [← t.1]; exact hi
  exact ⟨ds[i], List.getElem?_eq_getElem hi', t.2 i _ _ h (List.getElem?_eq_getElem hi')⟩
theorem AtL.append : ∀ {vs ws : List V} {ds es : List D}, AtL K S vs ds → AtL K S ws es → AtL K S (vs ++ ws) (ds ++ es)
  | [], _, [], _, _, h => h
  | v :: vs, _, d :: ds, _, t, h => .cons t.head (AtL.append t.tail h)
  | [], _, d :: ds, _, t, _ => by have := t.1; simp at this
  | v :: vs, _, [], _, t, _ => by have := t.1; simp at this
theorem AtL.cut (n m : Nat) (t : AtL K S vs ds) : AtL K S ((vs.drop n).take m) ((ds.drop n).take m) := by
  refine ⟨by simp [t.1], fun i w e a b => ?_⟩
  rw [List.getElem?_take] at a b
  by_cases h : i < m
  · rw [if_pos h, List.getElem?_drop] at a b; exact t.2 _ _ _ a b
  · rw [if_neg h] at a; cases a
theorem AtL.set {i : Nat} (h : At K S v d) (t : AtL K S vs ds) : AtL K S (vs.set i v) (ds.set i d) := by
  refine ⟨by simp [t.1], fun j w e a b => ?_⟩
  rw [List.getElem?_set] at a b
  by_cases hj : i = j
  · rw [if_pos hj] at a b
    subst hj
    by_cases hl : i < vs.length
    · rw [if_pos hl] at a; rw [if_pos (by rw [← t.1]; exact hl)] at b; cases a; cases b; exact h
    · rw [if_neg hl] at a; cases a
  · rw [if_neg hj] at a b; exact t.2 _ _ _ a b
theorem AtL.strs : ∀ {vs : List V} {ss : List Str}, AtL K S vs (ss.map D.str) → vs = ss.map V.str
  | [], [], _ => rfl
  | v :: vs, s :: ss, t => by
    have h := t.head
    cases h
    rw [AtL.strs (ss := ss) t.tail]; rfl
  | [], s :: ss, t => by have := t.1; simp at this
  | v :: vs, [], t => by have := t.1; simp at this
theorem AtL.ints : ∀ {vs : List V} {ss : List Int}, AtL K S vs (ss.map D.int) → vs = ss.map V.int
  | [], [], _ => rfl
  | v :: vs, s :: ss, t => by
    have h := t.head
    cases h
    rw [AtL.ints (ss := ss) t.tail]; rfl
  | [], s :: ss, t => by have := t.1; simp at this
  | v :: vs, [], t => by have := t.1; simp at this
theorem AtL.bls : ∀ {vs : List V} {ss : List Bool}, AtL K S vs (ss.map D.bl) → vs = ss.map V.bl
  | [], [], _ => rfl
  | v :: vs, s :: ss, t => by
    have h := t.head
    cases h
    rw [AtL.bls (ss := ss) t.tail]; rfl
  | [], s :: ss, t => by have := t.1; simp at this
  | v :: vs, [], t => by have := t.1; simp at this
theorem atL_strs : ∀ (ss : List Str), AtL K S (ss.map V.str) (ss.map D.str)
  | [] => .nil
  | s :: ss => .cons (.str s) (atL_strs ss)
theorem atL_ints : ∀ (ss : List Int), AtL K S (ss.map V.int) (ss.map D.int)
  | [] => .nil
  | s :: ss => .cons (.int s) (atL_ints ss)
end

/-- an object of the abstract heap stands for an object of the store -/
def MAt (K : PySem.W.Frag) (S : Hp) : HO → MO → Prop
  | .lst vs, .lst ds => AtL K S vs ds
  | .dK kvs, .dK es => kvs.map (·.1) = es.map (·.1) ∧ AtL K S (kvs.map (·.2)) (es.map (·.2))
  | .dT kvs, .dT es => kvs.map (·.1) = es.map (·.1) ∧ AtL K S (kvs.map (·.2)) (es.map (·.2))
  | .ins C _ fs, .ins C' gs => C = C' ∧ fs.map (·.1) = gs.map (·.1) ∧ AtL K S (fs.map (·.2)) (gs.map (·.2))
  | _, _ => False
theorem MAt.mono {K : PySem.W.Frag} {S S' : Hp} (e : Le S S') {o : HO} {m : MO} (h : MAt K S o m) : MAt K S' o m := by
  cases o <;> cases m <;> first
    | exact AtL.mono e h
    | exact ⟨h.1, AtL.mono e h.2⟩
    | exact ⟨h.1, h.2.1, AtL.mono e h.2.2⟩
    | exact h
def isDic : HO → Bool
  | .dK _ => true
  | .dT _ => true
  | _ => false
/-- the abstract heap H is what never changes, S, the store μ, a rest F of the store that stays, and more -/
structure R (K : PySem.W.Frag) (S H : Hp) (μ F : Mu) : Prop where
  imm : ∀ a o, S a = some o → H a = some o ∨ (isDic o = true ∧ ∃ ob, H a = some (.frz ob o))
  sto : ∀ a m, μ a = some m → S a = none ∧ ∃ o, H a = some o ∧ MAt K S o m
  frm : ∀ a m, F a = some m → μ a = none ∧ S a = none ∧ ∃ o, H a = some o ∧ MAt K S o m
section
variable {K : PySem.W.Frag} {S H : Hp} {μ F : Mu} {p : Addr}
theorem R.free (r : R K S H μ F) (h : H p = none) : S p = none := by
  cases e : S p with
  | none => rfl
  | some o => rcases r.imm p o e with q | ⟨_, ob, q⟩ <;> (rw [h] at q; cases q)
theorem R.freeM (r : R K S H μ F) (h : H p = none) : μ p = none := by
  cases e : μ p with
  | none => rfl
  | some o => obtain ⟨_, o', q, _⟩ := r.sto p o e; rw [h] at q; cases q
theorem R.freeF (r : R K S H μ F) (h : H p = none) : F p = none := by
  cases e : F p with
  | none => rfl
  | some o => obtain ⟨_, _, o', q, _⟩ := r.frm p o e; rw [h] at q; cases q
theorem R.lst (r : R K S H μ F) {vs : List V} (h : S p = some (.lst vs)) : H p = some (.lst vs) := by
  rcases r.imm p _ h with q | ⟨q, _⟩
  · exact q
  · cases q
theorem R.tup (r : R K S H μ F) {vs : List V} (h : S p = some (.tup vs)) : H p = some (.tup vs) := by
  rcases r.imm p _ h with q | ⟨q, _⟩
  · exact q
  · cases q
theorem R.ins (r : R K S H μ F) {C dx : Addr} {fs : List (Str × V)} (h : S p = some (.ins C dx fs)) : H p = some (.ins C dx fs) := by
  rcases r.imm p _ h with q | ⟨q, _⟩
  · exact q
  · cases q
theorem R.rd (r : R K S H μ F) {o : HO} (h : S p = some o) : Rd H p o := by
  rcases r.imm p _ h with q | ⟨_, ob, q⟩
  · exact .inl q
  · exact .inr ⟨ob, q⟩
theorem R.rd' (r : R K S H μ F) {o : HO} (hd : isDic o = false) (h : Rd S p o) : Rd H p o := by
  rcases h with h | ⟨ob, h⟩
  · rcases r.imm p _ h with q | ⟨q, _⟩
    · exact .inl q
    · rw [hd] at q; cases q
  · rcases r.imm p _ h with q | ⟨q, _⟩
    · exact .inr ⟨ob, q⟩
    · cases q
theorem R.sqT (r : R K S H μ F) {vs : List V} (h : SqT K S p vs) : SqT K H p vs := h.elim (fun h => .inl (r.rd' rfl h)) .inr
theorem R.sqL (r : R K S H μ F) {vs : List V} (h : SqL K S p vs) : SqL K H p vs := h.elim (fun h => .inl (r.rd' rfl h)) .inr
theorem sto_new {K : PySem.W.Frag} {S H : Hp} {p : Addr} {o : HO} {a : Addr} {m : MO} (h : H p = none) (hs : S p = none) (q : S a = none ∧ ∃ o, H a = some o ∧ MAt K S o m) :
    a ≠ p ∧ upd S p o a = none ∧ ∃ o', upd H p o a = some o' ∧ MAt K (upd S p o) o' m := by
  obtain ⟨h1, o', h2, h3⟩ := q
  have ha : a ≠ p := fun z => by subst z; rw [h] at h2; cases h2
  exact ⟨ha, by rw [upd_ne ha]; exact h1, o', by rw [upd_ne ha]; exact h2, h3.mono (Le.new hs)⟩
/-- a new object that never changes -/
theorem R.new (r : R K S H μ F) {o : HO} (h : H p = none) : R K (upd S p o) (upd H p o) μ F := by
  refine ⟨fun a u e => ?_, fun a m e => (sto_new h (r.free h) (r.sto a m e)).2, fun a m e => ?_⟩
  · by_cases ha : a = p
    · subst ha; rw [upd_same] at e ⊢; exact .inl e
    · rw [upd_ne ha] at e ⊢; exact r.imm a u e
  · obtain ⟨h0, q⟩ := r.frm a m e
    exact ⟨h0, (sto_new h (r.free h) q).2⟩
theorem imm_ne (r : R K S H μ F) {o u : HO} {a : Addr} (hs : S p = none) (e : S a = some u) : upd H p o a = some u ∨ (isDic u = true ∧ ∃ ob, upd H p o a = some (.frz ob u)) := by
  have ha : a ≠ p := fun z => by subst z; rw [hs] at e; cases e
  rw [upd_ne ha]; exact r.imm a u e
/-- a new object of the store -/
theorem R.newM (r : R K S H μ F) {o : HO} {m : MO} (h : H p = none) (hm : MAt K S o m) : R K S (upd H p o) (updM μ p m) F := by
  refine ⟨fun a u e => imm_ne r (r.free h) e, fun a m' e => ?_, fun a m' e => ?_⟩
  · by_cases ha : a = p
    · subst ha; rw [updM_same] at e; cases e
      exact ⟨r.free h, o, upd_same, hm⟩
    · rw [updM_ne ha] at e; rw [upd_ne ha]; exact r.sto a m' e
  · obtain ⟨h0, h1, o', h2, h3⟩ := r.frm a m' e
    have ha : a ≠ p := fun z => by subst z; rw [h] at h2; cases h2
    exact ⟨by rw [updM_ne ha]; exact h0, h1, o', by rw [upd_ne ha]; exact h2, h3⟩
/-- a new object that is forgotten -/
theorem R.newF (r : R K S H μ F) {o : HO} (h : H p = none) : R K S (upd H p o) μ F := by
  refine ⟨fun a u e => imm_ne r (r.free h) e, fun a m' e => ?_, fun a m' e => ?_⟩
  · obtain ⟨h1, o', h2, h3⟩ := r.sto a m' e
    have ha : a ≠ p := fun z => by subst z; rw [h] at h2; cases h2
    exact ⟨h1, o', by rw [upd_ne ha]; exact h2, h3⟩
  · obtain ⟨h0, h1, o', h2, h3⟩ := r.frm a m' e
    have ha : a ≠ p := fun z => by subst z; rw [h] at h2; cases h2
    exact ⟨h0, h1, o', by rw [upd_ne ha]; exact h2, h3⟩
/-- an object of the store is written -/
theorem R.write (r : R K S H μ F) {o : HO} {m m0 : MO} (h : μ p = some m0) (hm : MAt K S o m) : R K S (upd H p o) (updM μ p m) F := by
  obtain ⟨hs, _⟩ := r.sto p m0 h
  refine ⟨fun a u e => imm_ne r hs e, fun a m' e => ?_, fun a m' e => ?_⟩
  · by_cases ha : a = p
    · subst ha; rw [updM_same] at e; cases e
      exact ⟨hs, o, upd_same, hm⟩
    · rw [updM_ne ha] at e; rw [upd_ne ha]; exact r.sto a m' e
  · obtain ⟨h0, h1, o', h2, h3⟩ := r.frm a m' e
    have ha : a ≠ p := fun z => by subst z; rw [h] at h0; cases h0
    exact ⟨by rw [updM_ne ha]; exact h0, h1, o', by rw [upd_ne ha]; exact h2, h3⟩
/-- an object of the rest is written (by whoever knows it) -/
theorem R.writeF (r : R K S H μ F) {o : HO} {m m0 : MO} (h : F p = some m0) (hm : MAt K S o m) : R K S (upd H p o) μ (updM F p m) := by
  obtain ⟨hμ, hs, _⟩ := r.frm p m0 h
  refine ⟨fun a u e => imm_ne r hs e, fun a m' e => ?_, fun a m' e => ?_⟩
  · have ha : a ≠ p := fun z => by subst z; rw [hμ] at e; cases e
    obtain ⟨h1, o', h2, h3⟩ := r.sto a m' e
    exact ⟨h1, o', by rw [upd_ne ha]; exact h2, h3⟩
  · by_cases ha : a = p
    · subst ha; rw [updM_same] at e; cases e
      exact ⟨hμ, hs, o, upd_same, hm⟩
    · rw [updM_ne ha] at e; rw [upd_ne ha]; exact r.frm a m' e
/-- a new object of the rest -/
theorem R.newR (r : R K S H μ F) {o : HO} {m : MO} (h : H p = none) (hm : MAt K S o m) : R K S (upd H p o) μ (updM F p m) := by
  refine ⟨fun a u e => imm_ne r (r.free h) e, fun a m' e => ?_, fun a m' e => ?_⟩
  · obtain ⟨h1, o', h2, h3⟩ := r.sto a m' e
    have ha : a ≠ p := fun z => by subst z; rw [h] at h2; cases h2
    exact ⟨h1, o', by rw [upd_ne ha]; exact h2, h3⟩
  · by_cases ha : a = p
    · subst ha; rw [updM_same] at e; cases e
      exact ⟨r.freeM h, r.free h, o, upd_same, hm⟩
    · rw [updM_ne ha] at e; rw [upd_ne ha]; exact r.frm a m' e
/-- an object of the store changes no more -/
theorem R.freeze (r : R K S H μ F) {o : HO} (h : H p = some o) (hs : S p = none) (hf : F p = none) : R K (upd S p o) H (delM μ p) F := by
  refine ⟨fun a u e => ?_, fun a m' e => ?_, fun a m' e => ?_⟩
  · by_cases ha : a = p
    · subst ha; rw [upd_same] at e; cases e; exact .inl h
    · rw [upd_ne ha] at e; exact r.imm a u e
  · unfold delM at e
    by_cases ha : a = p
    · rw [if_pos ha] at e; cases e
    · rw [if_neg ha] at e
      obtain ⟨h1, o', h2, h3⟩ := r.sto a m' e
      exact ⟨by rw [upd_ne ha]; exact h1, o', h2, h3.mono (Le.new hs)⟩
  · obtain ⟨h0, h1, o', h2, h3⟩ := r.frm a m' e
    have ha : a ≠ p := fun z => by subst z; rw [hf] at e; cases e
    exact ⟨by unfold delM; rw [if_neg ha]; exact h0, by rw [upd_ne ha]; exact h1, o', h2, h3.mono (Le.new hs)⟩
theorem R.freezeF (r : R K S H μ F) {o : HO} (h : H p = some o) (hs : S p = none) (hm : μ p = none) : R K (upd S p o) H μ (delM F p) := by
  refine ⟨fun a u e => ?_, fun a m' e => ?_, fun a m' e => ?_⟩
  · by_cases ha : a = p
    · subst ha; rw [upd_same] at e; cases e; exact .inl h
    · rw [upd_ne ha] at e; exact r.imm a u e
  · have ha : a ≠ p := fun z => by subst z; rw [hm] at e; cases e
    obtain ⟨h1, o', h2, h3⟩ := r.sto a m' e
    exact ⟨by rw [upd_ne ha]; exact h1, o', h2, h3.mono (Le.new hs)⟩
  · unfold delM at e
    by_cases ha : a = p
    · rw [if_pos ha] at e; cases e
    · rw [if_neg ha] at e
      obtain ⟨h0, h1, o', h2, h3⟩ := r.frm a m' e
      exact ⟨h0, by rw [upd_ne ha]; exact h1, o', h2, h3.mono (Le.new hs)⟩
/-- the store forgets -/
theorem R.forget (r : R K S H μ F) {μ' : Mu} (h : ∀ a m, μ' a = some m → μ a = some m) : R K S H μ' F := by
  refine ⟨r.imm, fun a m e => r.sto a m (h a m e), fun a m e => ⟨?_, (r.frm a m e).2⟩⟩
  cases z : μ' a with
  | none => rfl
  | some u =>
    have q := (r.frm a m e).1
    rw [h a u z] at q
    cases q
/-- the rest forgets -/
theorem R.forgetF (r : R K S H μ F) {F' : Mu} (h : ∀ a m, F' a = some m → F a = some m) : R K S H μ F' := ⟨r.imm, r.sto, fun a m e => r.frm a m (h a m e)⟩
end

/-- what an exception carries -/
def XAt (K : PySem.W.Frag) (S : Hp) : Option Addr → List (Str × D) → Prop
  | none, gs => gs = []
  | some d, gs => ∃ fs : List (Str × V), S d = some (.xd fs) ∧ fs.map (·.1) = gs.map (·.1) ∧ AtL K S (fs.map (·.2)) (gs.map (·.2))
theorem XAt.mono {K : PySem.W.Frag} {S S' : Hp} (e : Le S S') {d : Option Addr} {gs : List (Str × D)} (h : XAt K S d gs) : XAt K S' d gs := by
  cases d with
  | none => exact h
  | some d => obtain ⟨fs, h1, h2, h3⟩ := h; exact ⟨fs, e _ _ h1, h2, h3.mono e⟩

abbrev Ga := List (Option D)
def Env (K : PySem.W.Frag) (S : Hp) (σ : St) (γ : Ga) : Prop := σ.length = γ.length ∧ ∀ (i : Nat) d, γ[i]? = some (some d) → ∃ v, σ[i]? = some (some v) ∧ At K S v d
theorem Env.mono {K : PySem.W.Frag} {S S' : Hp} (e : Le S S') {σ : St} {γ : Ga} (h : Env K S σ γ) : Env K S' σ γ := ⟨h.1, fun i d a => let ⟨v, h1, h2⟩ := h.2 i d a; ⟨v, h1, h2.mono e⟩⟩
theorem Env.set {K : PySem.W.Frag} {S : Hp} {σ : St} {γ : Ga} {i : Nat} {v : V} {d : D} (h : Env K S σ γ) (a : At K S v d) : Env K S (σ.set i (some v)) (γ.set i (some d)) := by
  refine ⟨by simp [h.1], fun j e q => ?_⟩
  rw [List.getElem?_set] at q
  by_cases hj : i = j
  · subst hj
    rw [if_pos rfl] at q
    by_cases hl : i < γ.length
    · rw [if_pos hl] at q; cases q
      exact ⟨v, by rw [List.getElem?_set, if_pos rfl, if_pos (by rw [h.1]; exact hl)], a⟩
    · rw [if_neg hl] at q; cases q
  · rw [if_neg hj] at q
    rw [List.getElem?_set, if_neg hj]; exact h.2 j e q
theorem Env.clear {K : PySem.W.Frag} {S : Hp} {σ : St} {γ : Ga} {i : Nat} {x : Option V} (h : Env K S σ γ) : Env K S (σ.set i x) (γ.set i none) := by
  refine ⟨by simp [h.1], fun j e q => ?_⟩
  rw [List.getElem?_set] at q
  by_cases hj : i = j
  · subst hj
    rw [if_pos rfl] at q
    by_cases hl : i < γ.length
    · rw [if_pos hl] at q; cases q
    · rw [if_neg hl] at q; cases q
  · rw [if_neg hj] at q
    rw [List.getElem?_set, if_neg hj]; exact h.2 j e q
theorem Env.start {K : PySem.W.Frag} {S : Hp} {vs : List V} {ds : List D} (h : AtL K S vs ds) (N : List Str) : Env K S (L2.start N vs) (ds.map some ++ List.replicate (N.length - ds.length) none) := by
  refine ⟨by unfold L2.start; simp [h.1], fun i d q => ?_⟩
  by_cases hi : i < ds.length
  · rw [List.getElem?_append_left (by simpa using hi), List.getElem?_map] at q
    cases e : ds[i]? with
    | none => rw [e] at q; cases q
    | some d' =>
      rw [e] at q; cases q
      obtain ⟨v, h1, h2⟩ := h.get e
      exact ⟨v, by unfold L2.start; rw [List.getElem?_append_left (by simp [h.1]; exact hi), List.getElem?_map, h1]; rfl, h2⟩
  · rw [List.getElem?_append_right (by simpa using Nat.le_of_not_lt hi), List.getElem?_replicate] at q
    split at q <;> cases q

abbrev XD := Ga → Value → List (Str × D) → Mu → Prop
abbrev KD := D → Mu → Prop
abbrev TD := Ga → Mu → XD → KD → Prop
abbrev TDT := Ga → Mu → XD → (Bool → Mu → Prop) → Prop
abbrev TDA := Ga → Mu → XD → (List D → Mu → Prop) → Prop
structure DEnds where
  nx : Ga → Mu → Prop
  rt : KD
  bk : Ga → Mu → Prop := fun _ _ => False
  ct : Ga → Mu → Prop := fun _ _ => False
abbrev TDS := DEnds → Ga → Mu → XD → Prop
abbrev TDG := D → Ga → Mu → XD → (Ga → Mu → Prop) → Prop

def XOk (K : PySem.W.Frag) (S : Hp) (F : Mu) (W : WX) (Ξ : XD) : Prop := ∀ S' H' σ γ cls xd fs μ', Le S S' → Env K S' σ γ → R K S' H' μ' F → XAt K S' xd fs → Ξ γ cls fs μ' → W cls xd σ H'
theorem XOk.mono {K : PySem.W.Frag} {S S' : Hp} {F : Mu} {W : WX} {Ξ : XD} (e : Le S S') (h : XOk K S F W Ξ) : XOk K S' F W Ξ := fun S2 H2 σ γ cls xd fs μ e2 => h S2 H2 σ γ cls xd fs μ (e.trans e2)
def tD (K : PySem.W.Frag) (W : WX) (w : TD) : TE := fun σ H Q => ∃ S γ μ F Ξ Φ, Env K S σ γ ∧ R K S H μ F ∧ XOk K S F W Ξ ∧ w γ μ Ξ Φ ∧ ∀ S' H' v d μ', Le S S' → R K S' H' μ' F → At K S' v d → Φ d μ' → Q v H'
def tDT (K : PySem.W.Frag) (W : WX) (w : TDT) : TT := fun σ H Q => ∃ S γ μ F Ξ Φ, Env K S σ γ ∧ R K S H μ F ∧ XOk K S F W Ξ ∧ w γ μ Ξ Φ ∧ ∀ S' H' b μ', Le S S' → R K S' H' μ' F → Φ b μ' → Q b H'
def tDA (K : PySem.W.Frag) (W : WX) (w : TDA) : TA := fun σ H Q => ∃ S γ μ F Ξ Φ, Env K S σ γ ∧ R K S H μ F ∧ XOk K S F W Ξ ∧ w γ μ Ξ Φ ∧ ∀ S' H' vs ds μ', Le S S' → R K S' H' μ' F → AtL K S' vs ds → Φ ds μ' → Q vs H'
structure EOk (K : PySem.W.Frag) (S : Hp) (F : Mu) (DD : DEnds) (D : Ends) : Prop where
  nx : ∀ S' H' σ γ μ, Le S S' → Env K S' σ γ → R K S' H' μ F → DD.nx γ μ → D.nx σ H'
  rt : ∀ S' H' v d μ, Le S S' → R K S' H' μ F → At K S' v d → DD.rt d μ → D.rt v H'
  bk : ∀ S' H' σ γ μ, Le S S' → Env K S' σ γ → R K S' H' μ F → DD.bk γ μ → D.bk σ H'
  ct : ∀ S' H' σ γ μ, Le S S' → Env K S' σ γ → R K S' H' μ F → DD.ct γ μ → D.ct σ H'
theorem EOk.mono {K : PySem.W.Frag} {S S' : Hp} {F : Mu} {DD : DEnds} {D : Ends} (e : Le S S') (h : EOk K S F DD D) : EOk K S' F DD D :=
  ⟨fun S2 H2 σ γ μ e2 => h.nx S2 H2 σ γ μ (e.trans e2), fun S2 H2 v d μ e2 => h.rt S2 H2 v d μ (e.trans e2), fun S2 H2 σ γ μ e2 => h.bk S2 H2 σ γ μ (e.trans e2), fun S2 H2 σ γ μ e2 => h.ct S2 H2 σ γ μ (e.trans e2)⟩
def tDS (K : PySem.W.Frag) (W : WX) (w : TDS) : TS := fun D σ H => ∃ S γ μ F Ξ DD, Env K S σ γ ∧ R K S H μ F ∧ XOk K S F W Ξ ∧ w DD γ μ Ξ ∧ EOk K S F DD D
def tDG (K : PySem.W.Frag) (W : WX) (w : TDG) : TG := fun v σ H Q => ∃ S γ μ F Ξ Φ d, Env K S σ γ ∧ R K S H μ F ∧ XOk K S F W Ξ ∧ At K S v d ∧ w d γ μ Ξ Φ ∧ ∀ S' H' σ' γ' μ', Le S S' → Env K S' σ' γ' → R K S' H' μ' F → Φ γ' μ' → Q σ' H'

/-! ### weakening of the hand layer's readings -/
section
variable {X : Cx}
theorem pe_imp {e : Expr} {t t' : TE} (h : PE X e t) (i : ∀ σ H Q, t' σ H Q → t σ H Q) : PE X e t' := ⟨fun p s σ H Q I q => h.run p s σ H Q I (i σ H Q q)⟩
theorem pt_imp {e : Expr} {t t' : TT} (h : PT X e t) (i : ∀ σ H Q, t' σ H Q → t σ H Q) : PT X e t' := ⟨fun p s σ H Q I q => h.run p s σ H Q I (i σ H Q q)⟩
theorem pw_imp {e : Expr} {t t' : TT} (h : PW X e t) (i : ∀ σ H Q, t' σ H Q → t σ H Q) : PW X e t' := ⟨fun wh p s σ H Q I q => h.run wh p s σ H Q I (i σ H Q q)⟩
theorem pa_imp {e : List Expr} {t t' : TA} (h : PA X e t) (i : ∀ σ H Q, t' σ H Q → t σ H Q) : PA X e t' := ⟨fun po p s σ H Q I q => h.run po p s σ H Q I (i σ H Q q)⟩
theorem ps_imp {e : Stmt} {t t' : TS} (h : PS X e t) (i : ∀ D σ H, t' D σ H → t D σ H) : PS X e t' := ⟨fun p s σ H D I q => h.run p s σ H D I (i D σ H q)⟩
theorem pss_imp {e : List Stmt} {t t' : TS} (h : PSs X e t) (i : ∀ D σ H, t' D σ H → t D σ H) : PSs X e t' := ⟨fun p s σ H D I q => h.run p s σ H D I (i D σ H q)⟩
theorem pg_imp {e : Expr} {t t' : TG} (h : PG X e t) (i : ∀ v σ H Q, t' v σ H Q → t v σ H Q) : PG X e t' := ⟨fun p s σ H v u Q I r q => h.run p s σ H v u Q I r (i v σ H Q q)⟩
end
end DL

/-! # DL2: operators that the text's own classes define, at the hand layer's level -/
namespace DL
open PySem L2

section
variable {X : Cx} {pins : List (Addr × Obj)} {σ : L2.St} {H : Hp} {s : Shared} {CX : CXT} {n : Nat} {f C : Addr} {fd : FuncData} {ps : List Str} {sp : Sp} {A : Around} {E : XK}
/-- a def of the text, called at A, below the running body -/
theorem run_sub {us : List Value} {vs : List V} {Q : VK} (F : FnR X.prog X.w X.K X.mg X.base CX n f sp) (sb : Sub X n A) (hx : PassesAt CX X σ E)
    (I : Inv X pins σ H s) (r : Vals vs us) (h : sp vs H Q E) : wpAny (model X.prog X.w) A (call (.ref f) us) (EP X pins σ Q) X.xe s := by
  have e0 : Env0 X.prog X.w X.K X.mg X.base A X.stack s H := by
    have e := I.env0
    exact ⟨by rw [sb.fr]; exact e.frames, e.mod, e.bs, e.bsz, e.funs, e.frf, e.hok, e.bare⟩
  refine wpAny_call (codeAny_mono (F A X.stack s H us vs Q E sb.room e0 r h) fun r s' hq => ?_)
  cases r with
  | error e => exact hx pins H s e s' I hq
  | ok fl =>
    cases fl with
    | ret u => exact I.after hq
    | next => exact False.elim hq
    | brk => exact False.elim hq
    | cont => exact False.elim hq
theorem passAt0 {X : Cx} (σ : L2.St) : PassesAt (L2.CX X.prog X.w) X σ E0 := fun _ _ _ _ _ _ h => by
  obtain ⟨_, _, _, _, _, _, _, _, _, _, _, _, z⟩ := h
  exact z.elim
theorem back_of {Q : VK} {v : Value} {s' : Shared} (h : EP X pins σ Q v s') : PySem.W.CmpBack (EP X pins σ Q) v s' := by
  obtain ⟨x, H', I, r, q⟩ := h
  cases x with
  | non => cases r; exact ⟨.non, H', I, rfl, q⟩
  | bl b => cases r; exact ⟨.bl b, H', I, rfl, q⟩
  | int i => obtain ⟨t, rfl⟩ := r; exact ⟨.int i, H', I, ⟨t, rfl⟩, q⟩
  | str i => obtain ⟨t, rfl⟩ := r; exact ⟨.str i, H', I, ⟨t, rfl⟩, q⟩
  | byt i => obtain ⟨t, rfl⟩ := r; exact ⟨.byt i, H', I, ⟨t, rfl⟩, q⟩
  | flt i => obtain ⟨t, rfl⟩ := r; exact ⟨.flt i, H', I, ⟨t, rfl⟩, q⟩
  | ref a => cases r; exact ⟨.ref a, H', I, rfl, q⟩
  | ty n => cases r; exact ⟨.ty n, H', I, rfl, q⟩
/-- an instance of the class at C stands at a -/
def InsAt (H : Hp) (C a : Addr) : Prop := ∃ dx fs, H a = some (.ins C dx fs)
theorem ins_at {a : Addr} (I : Inv X pins σ H s) (h : InsAt H C a) : ∃ od : Addr × Obj, PySem.W.InstAt s.heap a (PySem.W.instObj C od.1) C (some od.2) := by
  obtain ⟨dx, fs, h⟩ := h
  obtain ⟨mA, J, _⟩ := ins_get I.hok h
  obtain ⟨od, J, _⟩ := J.look
  exact ⟨(dx, od), J⟩
/-- a method of the class at C that stands behind an operator -/
structure OwnM (K : PySem.W.Frag) (C : Addr) (m : Str) (f : Addr) : Prop where
  at_ : PySem.W.findIn K (.ref C) m = some (some (.ref f))
  fn : PySem.W.isFn K (.ref f) = true
/-- a | b, both of the class at C -/
def rOwnB (C : Addr) (sp : Sp) : R2 := fun x y H Q => ∃ a b, x = .ref a ∧ y = .ref b ∧ InsAt H C a ∧ InsAt H C b ∧ sp [x, y] H Q E0
theorem op_ownB {op : Operator} (hm : OwnM X.K C (PySem.dunder op.info.2) f) (hc : PySem.W.selfFirst X.K C = true) (F : FnR X.prog X.w X.K X.mg X.base (L2.CX X.prog X.w) n f sp) (hr : Room n X.A) :
    OpR X (binaryOp op) (rOwnB C sp) := by
  intro pins s σ H x y v u Q I rx ry h
  obtain ⟨a, b, rfl, rfl, ha, hb', hsp⟩ := h
  cases rx
  cases ry
  obtain ⟨od, J⟩ := ins_at I ha
  obtain ⟨od', J'⟩ := ins_at I hb'
  obtain ⟨m, hF⟩ := I.fr
  refine PySem.W.binop_K hF I.ok.mod.kin J J'.type hc hm.at_ hm.fn ?_
  exact thn (run_sub (vs := [V.ref a, V.ref b]) F ⟨hr, rfl⟩ (passAt0 σ) I (.cons rfl (.cons rfl .nil)) hsp) fun v s' q => back_of q
/-- a op= b by an own method of the class at C -/
def rOwnI (C : Addr) (sp : Sp) : R2 := fun x y H Q => ∃ a, x = .ref a ∧ InsAt H C a ∧ sp [x, y] H Q E0
theorem in_ownI {op : Operator} (hm : OwnM X.K C (dunderI op.info.2) f) (hc : PySem.W.selfFirst X.K C = true) (F : FnR X.prog X.w X.K X.mg X.base (L2.CX X.prog X.w) n f sp) (hr : Room n X.A) :
    OpR X (inplaceOp op) (rOwnI C sp) := by
  intro pins s σ H x y v u Q I rx ry h
  obtain ⟨a, rfl, ha, hsp⟩ := h
  cases rx
  obtain ⟨od, J⟩ := ins_at I ha
  obtain ⟨m, hF⟩ := I.fr
  refine PySem.W.ksp_inplace hF I.ok.mod.kin J hc hm.at_ hm.fn ?_
  exact thn (run_sub (vs := [V.ref a, y]) F ⟨hr, rfl⟩ (passAt0 σ) I (.cons rfl (.cons ry .nil)) hsp) fun v s' q => back_of q
/-- a == b, a <= b .. by an own method; b an instance of the same class -/
theorem op_ownC {op : CmpOp} (hop : ∀ v u, compareOp op v u = richCompare op v u) (hm : OwnM X.K C (cmpInfo op).2.1 f) (hn : PySem.W.notFirst X.K C (.ref C) = true) (F : FnR X.prog X.w X.K X.mg X.base (L2.CX X.prog X.w) n f sp) (hr : Room n X.A) :
    OpR X (compareOp op) (rOwnB C sp) := by
  intro pins s σ H x y v u Q I rx ry h
  obtain ⟨a, b, rfl, rfl, ha, hb', hsp⟩ := h
  cases rx
  cases ry
  obtain ⟨od, J⟩ := ins_at I ha
  obtain ⟨od', J'⟩ := ins_at I hb'
  obtain ⟨m, hF⟩ := I.fr
  rw [hop]
  refine PySem.W.cmp_K hr.units0 hF I.ok.mod.kin J J'.type hn hm.at_ hm.fn ?_
  exact thn (run_sub (vs := [V.ref a, V.ref b]) F ⟨hr, rfl⟩ (passAt0 σ) I (.cons rfl (.cons rfl .nil)) hsp) fun v s' q => back_of q
/-- len(o) -/
def rOwnLen (C : Addr) (sp : Sp) : List V → Hp → VK → Prop := fun xs H Q => ∃ a, xs = [.ref a] ∧ InsAt H C a ∧ sp xs H (fun v H' => ∃ i : Int, v = .int i ∧ 0 ≤ i ∧ i < 2 ^ 63 ∧ Q v H') E0
theorem lenBack {Q : VK} {v : Value} {s' : Shared} (h : EP X pins σ (fun v H' => ∃ i : Int, v = .int i ∧ 0 ≤ i ∧ i < 2 ^ 63 ∧ Q v H') v s') : PySem.W.LenBack (EP X pins σ Q) v s' := by
  obtain ⟨x, H', I, r, i, rfl, h0, h1, q⟩ := h
  obtain ⟨t, rfl⟩ := r
  exact ⟨⟨h0, h1⟩, .int i, H', I.tok _, ⟨_, rfl⟩, q⟩
theorem call_ownLen (hm : OwnM X.K C "__len__" f) (F : FnR X.prog X.w X.K X.mg X.base (L2.CX X.prog X.w) n f sp) (hr : Room (n + 1) X.A) : CallR X (.builtin "len") (rOwnLen C sp) := by
  intro pins s σ H xs us Q I r h
  obtain ⟨a, rfl, ha, hsp⟩ := h
  obtain rfl := Vals.ref1 r
  obtain ⟨od, J⟩ := ins_at I ha
  obtain ⟨m, hF⟩ := I.fr
  refine PySem.W.len_K hF I.ok.mod.kin J hm.at_ hm.fn ?_
  exact thn (run_sub (vs := [V.ref a]) F ⟨hr.in1, rfl⟩ (passAt0 σ) I (.cons rfl .nil) hsp) fun v s' q => lenBack q
/-- y in o -/
def rOwnIn (C : Addr) (sp : Sp) (neg : Bool) : R2 := fun y x H Q => ∃ a, x = .ref a ∧ InsAt H C a ∧ sp [x, y] H (fun v H' => ∃ b, v = .bl b ∧ Q (.bl (if neg then !b else b)) H') E0
theorem op_ownIn (hm : OwnM X.K C "__contains__" f) (F : FnR X.prog X.w X.K X.mg X.base (L2.CX X.prog X.w) n f sp) (hr : Room n X.A) : OpR X (compareOp .In) (rOwnIn C sp false) := by
  intro pins s σ H y x v u Q I ry rx h
  obtain ⟨a, rfl, ha, hsp⟩ := h
  cases rx
  obtain ⟨od, J⟩ := ins_at I ha
  obtain ⟨m, hF⟩ := I.fr
  refine PySem.W.in_K hF I.ok.mod.kin J hm.at_ hm.fn ?_
  refine thn (run_sub (vs := [V.ref a, y]) F ⟨hr, rfl⟩ (passAt0 σ) I (.cons rfl (.cons ry .nil)) hsp) fun v s' q => ?_
  obtain ⟨z, H', I', rz, b, rfl, q⟩ := q
  cases rz
  exact wpAny_truthy_bool ⟨.bl b, H', I', rfl, q⟩
theorem op_ownNotIn (hm : OwnM X.K C "__contains__" f) (F : FnR X.prog X.w X.K X.mg X.base (L2.CX X.prog X.w) n f sp) (hr : Room n X.A) : OpR X (compareOp .NotIn) (rOwnIn C sp true) := by
  intro pins s σ H y x v u Q I ry rx h
  obtain ⟨a, rfl, ha, hsp⟩ := h
  cases rx
  obtain ⟨od, J⟩ := ins_at I ha
  obtain ⟨m, hF⟩ := I.fr
  refine PySem.W.notIn_K hF I.ok.mod.kin J hm.at_ hm.fn ?_
  refine thn (run_sub (vs := [V.ref a, y]) F ⟨hr, rfl⟩ (passAt0 σ) I (.cons rfl (.cons ry .nil)) hsp) fun v s' q => ?_
  obtain ⟨z, H', I', rz, b, rfl, q⟩ := q
  cases rz
  exact wpAny_truthy_bool ⟨.bl (!b), H', I', rfl, q⟩

/-! ### list(o), o of a class whose __iter__ gives a list's iterator, and which has __len__ -/
theorem pyNext_end2 {prog : Program} {w : World} {A : Around} {E : Value → Shared → Prop} {s : Shared} {it l : Addr} {i : Nat} {items : Array Value} {Q : Option Value → Shared → Prop} (hh : A.handled = none)
    (hit : s.heap.IsListIter it l i) (hl : s.heap.IsList l items) (hx : items[i]? = none)
    (hQ : ∀ h', Heap.ExtBut it s.heap h' → (∃ o, h'.get? it = some o) → Q none { s with heap := h' }) : wpAny (model prog w) A (pyNext (.ref it)) Q E s := by
  obtain ⟨o, ho, hc, hd⟩ := id hit
  obtain ⟨ol, hol, _, nl, hdl⟩ := hl
  unfold pyNext
  refine wpAny_bind (wpAny_attempt (wpAny_callSpecial?_slot (name := Str.ofString "__next__") hit.typeIs slot_listiter_next (wpAny_call_entry slot_listiter_next hit.typeIs entry_listiter_next ?_ (args_listiter_next _))))
  show wpAny _ _ (field (.ref it) 0 >>= _) _ _ s
  refine wpAny_bind (wpAny_field ho hd (x := .ref l) rfl ?_)
  show wpAny _ _ (if (Value.ref l == Value.none) = true then _ else _) _ _ s
  rw [if_neg (show ¬ ((Value.ref l == Value.none) = true) from Bool.false_ne_true)]
  show wpAny _ _ (field (.ref it) 1 >>= _) _ _ s
  refine wpAny_bind (wpAny_field ho hd (x := .int i 0) rfl ?_)
  show wpAny _ _ (seqItems? (.ref l) >>= _) _ _ s
  refine wpAny_bind (wpAny_seqItems hol hdl ?_)
  simp only [Int.toNat_natCast, hx]
  refine wpAny_bind (wpAny_rule (wpAny_bind (wpAny_setField ho hd (by simp) ?_)))
  show wpAny _ _ (newExc (.type "StopIteration") [] >>= _) _ _ _
  refine wpAny_bind ?_
  simp only [newExc, newTuple]
  refine wpAny_bind (wpAny_newObj_type ?_ (by size_fits))
  refine wpAny_bind (m := firstArgMember _ _) (wpAny_of_eq (a := Value.none) (by first | rfl | (simp only [firstArgMember]; rfl)) ?_)
  refine wpAny_newObj_type ?_ (by size_fits)
  simp only [raiseNew]
  refine wpAny_bind (wpAny_handled ?_)
  rw [show A.in1.handled = none from hh]
  refine wpAny_bind (wpAny_pure (wpAny_throw ?_))
  refine wpAny_bind (wpAny_isInstance (T := "StopIteration") (b := true) ⟨_, Heap.get?_push_size _ rfl, rfl⟩ isSubtype_stop ?_)
  exact wpAny_pure (hQ _ (((Heap.SameBut.update ..).extBut.push _).push _) ⟨_, Heap.get?_push_of_some _ (Heap.get?_push_of_some _ (Heap.get?_update_self _ ho (Obj.isFreed_of_fields (Obj.data_mapFields hd _))))⟩)

theorem pyNext_item2 {prog : Program} {w : World} {A : Around} {E : Value → Shared → Prop} {s : Shared} {it l : Addr} {i : Nat} {items : Array Value} {x : Value} {Q : Option Value → Shared → Prop}
    (ho : s.heap.get? it = some (GNX.itObj l i)) (hl : s.heap.IsList l items) (hx : items[i]? = some x)
    (hQ : ∀ h', h'.get? it = some (GNX.itObj l (i + 1)) → Heap.SameBut it s.heap h' → Q (some x) { s with heap := h' }) : wpAny (model prog w) A (pyNext (.ref it)) Q E s := by
  have hit : s.heap.IsListIter it l i := ⟨_, ho, rfl, rfl⟩
  obtain ⟨ol, hol, _, nl, hdl⟩ := hl
  unfold pyNext
  refine wpAny_bind (wpAny_attempt (wpAny_callSpecial?_slot (name := Str.ofString "__next__") hit.typeIs slot_listiter_next (wpAny_call_entry slot_listiter_next hit.typeIs entry_listiter_next ?_ (args_listiter_next _))))
  show wpAny _ _ (field (.ref it) 0 >>= _) _ _ s
  refine wpAny_bind (wpAny_field ho rfl (x := .ref l) rfl ?_)
  show wpAny _ _ (if (Value.ref l == Value.none) = true then _ else _) _ _ s
  rw [if_neg (show ¬ ((Value.ref l == Value.none) = true) from Bool.false_ne_true)]
  show wpAny _ _ (field (.ref it) 1 >>= _) _ _ s
  refine wpAny_bind (wpAny_field ho rfl (x := .int i 0) rfl ?_)
  show wpAny _ _ (seqItems? (.ref l) >>= _) _ _ s
  refine wpAny_bind (wpAny_seqItems hol hdl ?_)
  simp only [Int.toNat_natCast, hx]
  refine wpAny_bind (wpAny_setField ho rfl (by simp) (wpAny_pure ⟨x, rfl, wpAny_pure (hQ _ ?_ (Heap.SameBut.update ..))⟩))
  rw [Heap.get?_update_self _ ho (by rfl)]
  exact congrArg some (GNX.next_obj l i)

/-! ### calls by their values, the wish about exceptions at the slots -/
abbrev RS := L2.St → List V → Hp → VK → Prop
/-- f(vs), f an object -/
def CallS (X : Cx) (f : Addr) (r : RS) : Prop := ∀ (pins : List (Addr × Obj)) (s : Shared) (σ : L2.St) (H : Hp) (vs : List V) (us : List Value) (Q : VK), Inv X pins σ H s → Vals vs us → r σ vs H Q → wpAny (model X.prog X.w) X.A (call (.ref f) us) (EP X pins σ Q) X.xe s
theorem calls_def {f : Addr} {sp : Sp} {Ew : L2.St → XK} (F : FnR X.prog X.w X.K X.mg X.base CX n f sp) (hr : Room n X.A) (hx : ∀ σ, PassesAt CX X σ (Ew σ)) : CallS X f (fun σ vs H Q => sp vs H Q (Ew σ)) :=
  fun _ _ σ _ _ _ _ I r h => run_sub F ⟨hr, rfl⟩ (hx σ) I r h
theorem calls_class {f : Addr} {sp : Sp} {Ew : L2.St → XK} (M : Mk X.K C f) (F : FnR X.prog X.w X.K X.mg X.base CX n f sp) (hr : Room (n + 1) X.A) (hx : ∀ σ, PassesAt CX X σ (Ew σ)) :
    CallS X C (fun σ vs H Q => ∀ x dx, H x = none → H dx = none → dx ≠ x → sp (.ref x :: vs) (upd (upd H dx (.own x)) x (.ins C dx [])) (fun v H2 => v = .non ∧ Q (.ref x) H2) (Ew σ)) := by
  intro pins s σ H vs us Q I r h
  have hq := h (s.heap.objs.size + 1) s.heap.objs.size (I.hok.fresh (Nat.le_succ _)) (I.hok.fresh (Nat.le_refl _)) (Nat.ne_of_lt (Nat.lt_succ_self _))
  have I2 := Inv.made (C := C) I
  have r2 : Vals (V.ref (s.heap.objs.size + 1) :: vs) (Value.ref (s.heap.objs.size + 1) :: us) := .cons rfl r
  refine wpAny_call (make_map (f := f) I.kIn M.makes M.init (beq_iff_eq.mp M.fn) (codeAny_mono (F _ X.stack _ _ (Value.ref (s.heap.objs.size + 1) :: us) _ _ (Ew σ) (hr.make C us []) (I2.env0.make C us []) r2 hq) fun r s' hq' => ?_))
  cases r with
  | error e =>
    exact hx σ pins _ _ e s' I2 hq'
  | ok fl =>
    cases fl with
    | ret u =>
      obtain ⟨v, H', I3, rv, ev, q3⟩ := I2.after hq'
      subst ev
      exact ⟨rv, ⟨V.ref (s.heap.objs.size + 1), H', I3, rfl, q3⟩⟩
    | next => exact False.elim hq'
    | brk => exact False.elim hq'
    | cont => exact False.elim hq'
section
variable {x m : Str} {e o : Expr} {es : List Expr} {r : RS} {t : TA} {te to : TE} {p pos apos sp_ : Pos}
theorem pe_cs (c : CallS X f r) (hm : X.mg x = some (.ref f)) (hk : PySem.W.keepIn X.K (.ref f) = true) (ha : PA X (e :: es) t) (hg : Gl X x := by rfl) (hdb : (x == ("__debug__" : Str)) = false := by decide)
    (he : starEach (e :: es) X.env = (false, eval e X.env) :: starEach es X.env := by rfl) (hpl : (backTo pos (starEach es X.env)).any (·.1) = false := by rfl) : PE X (.Call (.Name x p) (e :: es) [] pos) (fun σ H Q => t σ H fun vs H1 => r σ vs H1 Q) := by
  refine ⟨fun pins s σ H Q I h => ?_⟩
  refine wpAny_Call_Name_kw (ld_glob I hg hm ?_ hdb)
  refine PySem.W.callWith_K (h₀ := X.base) I.ok.mod.kin hk (thn (ha.run pos pins s σ H _ I h) fun us s1 ⟨vs, H1, I1, rv, q⟩ => ⟨I1.kIn, ?_⟩) he hpl
  exact c pins s1 σ H1 vs us Q I1 rv q
theorem pe_cs0 (c : CallS X f r) (hm : X.mg x = some (.ref f)) (hk : PySem.W.keepIn X.K (.ref f) = true) (hg : Gl X x := by rfl) (hdb : (x == ("__debug__" : Str)) = false := by decide) : PE X (.Call (.Name x p) [] [] pos) (fun σ H Q => r σ [] H Q) := by
  refine ⟨fun pins s σ H Q I h => ?_⟩
  refine wpAny_Call_Name_kw (ld_glob I hg hm ?_ hdb)
  exact PySem.W.callWith_K0 I.kIn hk (c pins s σ H [] [] Q I .nil h)
/-- f(*e) -/
theorem pe_csS (c : CallS X f r) (hm : X.mg x = some (.ref f)) (hk : PySem.W.keepIn X.K (.ref f) = true) (he : PE X e te) (hg : Gl X x := by rfl) (hdb : (x == ("__debug__" : Str)) = false := by decide)
    (hst : starEach [.Starred e sp_] X.env = [(true, eval e X.env)] := by rfl) : PE X (.Call (.Name x p) [.Starred e sp_] [] pos) (fun σ H Q => te σ H fun y H1 => ∃ a xs, y = V.ref a ∧ (SqT X.K H1 a xs ∨ SqL X.K H1 a xs) ∧ r σ xs H1 Q) := by
  refine ⟨fun pins s σ H Q I h => ?_⟩
  refine wpAny_Call_Name_kw (ld_glob I hg hm ?_ hdb)
  refine PySem.W.callWith_S (h₀ := X.base) I.ok.mod.kin hk (thn (he.run pins s σ H _ I h) fun v s1 ⟨y, H1, I1, ry, a, xs, ey, hxs, q⟩ => ?_) hst
  subst ey
  obtain rfl : v = Value.ref a := ry
  exact StX.star_any I1 hxs fun us s2 I2 rv => ⟨I2.kIn, c pins s2 σ H1 xs us Q I2 rv q⟩
/-- f(e, .., *y) -/
theorem pe_csT (c : CallS X f r) (hm : X.mg x = some (.ref f)) (hk : PySem.W.keepIn X.K (.ref f) = true) (ha : PA X (e :: es) t) (hg : Gl X x := by rfl) (hdb : (x == ("__debug__" : Str)) = false := by decide)
    (he : starEach (e :: es) X.env = (false, eval e X.env) :: starEach es X.env := by rfl) (hst : (backTo pos (starEach es X.env)).any (·.1) = true := by rfl) : PE X (.Call (.Name x p) (e :: es) [] pos) (fun σ H Q => t σ H fun vs H1 => r σ vs H1 Q) := by
  refine ⟨fun pins s σ H Q I h => ?_⟩
  refine wpAny_Call_Name_kw (ld_glob I hg hm ?_ hdb)
  refine PySem.W.callWith_S2 (h₀ := X.base) I.ok.mod.kin hk (thn (ha.run pos pins s σ H _ I h) fun us s1 ⟨vs, H1, I1, rv, q⟩ => ⟨I1.kIn, ?_⟩) he hst
  exact c pins s1 σ H1 vs us Q I1 rv q
/-- o.m(e, ..), m a def of the class at C -/
theorem pe_ms {pl : Sem Bool} (he : PE X o to) (c : Cls X.K C) (hm : Meth X.K C m f) (cs : CallS X f r) (ha : PA X (e :: es) t)
    (hst : starEach (e :: es) X.env = (false, eval e X.env) :: starEach es X.env := by rfl) (hpl : (backTo pos (starEach es X.env)).any (·.1) = false := by rfl)
    (ht : eval (.Call (.Attribute o m apos) (e :: es) [] pos) X.env = (do
      let ov ← eval o X.env
      standAt apos.atName
      let (f, first) ← holding [ov] (getMethod ov m pl)
      callWith pos f first (backTo pos (starEach (e :: es) X.env)) (backToKw pos (keywordEach [] X.env))) := by rfl) :
    PE X (.Call (.Attribute o m apos) (e :: es) [] pos) (fun σ H Q => to σ H fun x H1 => ∃ a dx fs, x = .ref a ∧ H1 a = some (.ins C dx fs) ∧ fs.lookup m = none ∧ t σ H1 fun vs H2 => r σ (x :: vs) H2 Q) := by
  refine ⟨fun pins s σ H Q I h => ?_⟩
  refine PySem.W.methodCall_KW (pl := pl) (thn (he.run pins s σ H _ I h) fun u s1 ⟨x, H1, I1, rx, a, dx, fs, ex, ea, l, q⟩ => ?_) ht
  subst ex
  obtain rfl : u = Value.ref a := rx
  refine getmeth_ok I1 ea c hm l ?_
  refine PySem.W.callWith_K (first := [.ref a]) (h₀ := X.base) I.ok.mod.kin hm.kp (thn (ha.run pos pins s1 σ H1 _ I1 q) fun us s2 ⟨vs, H2, I2, rv, q2⟩ => ⟨I2.kIn, ?_⟩) hst hpl
  exact cs pins s2 σ H2 (.ref a :: vs) (.ref a :: us) Q I2 (.cons rfl rv) q2
theorem pe_ms0 {pl : Sem Bool} (he : PE X o to) (c : Cls X.K C) (hm : Meth X.K C m f) (cs : CallS X f r)
    (ht : eval (.Call (.Attribute o m apos) [] [] pos) X.env = (do
      let ov ← eval o X.env
      standAt apos.atName
      let (f, first) ← holding [ov] (getMethod ov m pl)
      callWith pos f first (backTo pos (starEach [] X.env)) (backToKw pos (keywordEach [] X.env))) := by rfl) :
    PE X (.Call (.Attribute o m apos) [] [] pos) (fun σ H Q => to σ H fun x H1 => ∃ a dx fs, x = .ref a ∧ H1 a = some (.ins C dx fs) ∧ fs.lookup m = none ∧ r σ [x] H1 Q) := by
  refine ⟨fun pins s σ H Q I h => ?_⟩
  refine PySem.W.methodCall_KW (pl := pl) (thn (he.run pins s σ H _ I h) fun u s1 ⟨x, H1, I1, rx, a, dx, fs, ex, ea, l, q⟩ => ?_) ht
  subst ex
  obtain rfl : u = Value.ref a := rx
  refine getmeth_ok I1 ea c hm l ?_
  exact PySem.W.callWith_K0 (first := [.ref a]) I1.kIn hm.kp (cs pins s1 σ H1 [.ref a] [.ref a] Q I1 (.cons rfl .nil) q)
end

/-- what is told of an iterator that has ended -/
def ItX (it : Addr) : HO := .ext fun h => ∃ o, h.get? it = some o
theorem itX_ok {P : Program} {w : World} {H : Hp} {h : Heap} {it : Addr} (e : ∃ o, h.get? it = some o) : ObjOk P w H h it (ItX it) := ⟨e, e, fun h1 h2 ⟨o, q⟩ k => ⟨o, k _ q⟩⟩
theorem itO_is {l it : Addr} {i : Nat} (I : Inv X pins σ H s) (e : H it = some (ItO l it i)) : s.heap.IsListIter it l i := ⟨_, itO_get I e, rfl, rfl⟩

theorem ext_loop {K' : PySem.W.Frag} {l it q : Addr} {xs : List V} {A1 : Around} {Rs : Result → Shared → Prop} (hK : K' = X.K) (hh : A1.in1.handled = none) (hz : xs.length < sizeLine) (hqi : q ≠ it) (G : Hp → Prop)
    (hG : ∀ H o u, G H → G (upd (upd H it o) q u)) (hGl : ∀ H, G H → SqL X.K H l xs)
    (hdone : ∀ H s, Inv X pins σ H s → G H → H q = some (.lst xs) → Rs (.ok (.ret .none)) s) :
    ∀ (m i : Nat), xs.length - i = m → i ≤ xs.length → ∀ (H : Hp) (s : Shared), Inv X pins σ H s → G H → H it = some (ItO l it i) → H q = some (.lst (xs.take i)) →
      codeAny (model X.prog X.w) A1 (.builtin "list.extend.loop" ⟨[.ref q, .ref it, .none], []⟩) Rs s := by
  intro m
  induction m with
  | zero =>
    intro i hm hi H s I g hit hq
    have e : i = xs.length := by omega
    subst e
    refine codeAny_builtin PySem.F.entry_extend_loop ?_
    rw [Around.under_plainId PySem.F.plain_extend_loop _]
    show wpAny _ A1.in1 (pyNext (.ref it) >>= _) _ _ s
    obtain ⟨its, rv, pl, hz'⟩ := I.list (hGl H g)
    refine wpAny_bind (pyNext_end2 hh (itO_is I hit) pl.isList (by rw [List.getElem?_toArray]; exact rv.none_of (by simp)) fun h' eb he => ?_)
    have mu : Mut (H it) := by rw [hit]; exact True.intro
    have I' : Inv X pins σ (upd H it (ItX it)) { s with heap := h' } := I.write (x := it) (e := it) (t' := s.toks) mu (.inl rfl) (fun b o nb z => eb b o nb z) he (itX_ok he)
    have g' : G (upd H it (ItX it)) := by
      have z := hG H (ItX it) (.lst (xs.take xs.length)) g
      have e2 : upd (upd H it (ItX it)) q (.lst (xs.take xs.length)) = upd H it (ItX it) := by
        funext b
        by_cases hb : b = q
        · subst hb; rw [upd_same, upd_ne hqi]; exact hq.symm
        · rw [upd_ne hb]
      rwa [e2] at z
    exact wpAny_pure (hdone _ _ I' g' (by rw [upd_ne hqi, hq, List.take_length]))
  | succ m ih =>
    intro i hm hi H s I g hit hq
    have hlt : i < xs.length := by omega
    refine codeAny_builtin PySem.F.entry_extend_loop ?_
    rw [Around.under_plainId PySem.F.plain_extend_loop _]
    show wpAny _ A1.in1 (pyNext (.ref it) >>= _) _ _ s
    obtain ⟨its, rv, pl, hz'⟩ := I.list (hGl H g)
    obtain ⟨u, hu, ru⟩ := rv.get (List.getElem?_eq_getElem hlt)
    refine wpAny_bind (pyNext_item2 (itO_get I hit) pl.isList (by rw [List.getElem?_toArray]; exact hu) fun h' e' sb => ?_)
    have mu : Mut (H it) := by rw [hit]; exact True.intro
    have I' : Inv X pins σ (upd H it (ItO l it (i + 1))) { s with heap := h' } := I.write (x := it) (e := it) (t' := s.toks) mu (.inl rfl) (fun b o nb z => (sb.2 b nb).trans z) ⟨_, e'⟩ (itO_ok e')
    have hq' : upd H it (ItO l it (i + 1)) q = some (.lst (xs.take i)) := by rw [upd_ne hqi]; exact hq
    show wpAny _ A1.in1 (updateSeq q (·.push u) >>= _) _ _ _
    obtain ⟨z, its2, k, r2, hl2, e2⟩ := I'.lstM hq'
    have hlen : (xs.take i).length < sizeLine := by rw [List.length_take]; omega
    refine wpAny_bind (wpAny_updateSeq e2 rfl (wpAny_pure ⟨plainId_quiet PySem.F.plain_extend_loop _, ?_⟩) (by rw [List.size_toArray]; omega) (by show (its2.toArray.push u).size ≤ sizeLine + 1; rw [Array.size_push, List.size_toArray]; omega))
    have tk : xs.take (i + 1) = xs.take i ++ [xs[i]] := by rw [List.take_add_one, List.getElem?_eq_getElem hlt]; rfl
    refine ih (i + 1) (by omega) hlt _ _ (I'.lset (its' := its2 ++ [u]) (ys := xs.take (i + 1)) (t' := s.toks) hq' e2 (by simp) (by rw [tk]; exact r2.append (.cons ru .nil)) (by rw [List.length_take]; omega)) (hG H _ _ g) ?_ upd_same
    rw [upd_ne (Ne.symm hqi), upd_same]

/-- list(o): spI: __iter__ gives an iterator over a list that keeps its items xs; spL: __len__ gives their number -/
def rOwnList (K : PySem.W.Frag) (C : Addr) (spI spL : Sp) : List V → Hp → VK → Prop := fun vs H Q => ∃ (a l : Addr) (xs : List V), vs = [.ref a] ∧ InsAt H C a ∧ SqL K H l xs ∧ xs.length < sizeLine ∧
  (∀ q Q', H q = none → (∀ it, upd H q (.lst []) it = none → Q' (.ref it) (upd (upd H q (.lst [])) it (ItO l it 0))) → spI vs (upd H q (.lst [])) Q' E0) ∧
  (∀ q it Q', H q = none → H it = none → it ≠ q → Q' (.int xs.length) (upd (upd H q (.lst [])) it (ItO l it 0)) → spL vs (upd (upd H q (.lst [])) it (ItO l it 0)) Q' E0) ∧
  ∀ q it o, H q = none → H it = none → it ≠ q → Q (.ref q) (upd (upd H q (.lst xs)) it o)
theorem room_sub {n : Nat} (hr : Room (n + 3) X.A) : Sub X n X.A.in1.in1.in1 := Sub.in1 (Sub.in1 (Sub.in1 (⟨hr, rfl⟩ : Sub X (n + 3) X.A)))
theorem own_hint2 {fl : Addr} {a : Addr} {k : Nat} {A1 : Around} {spL : Sp} {Q : Bool → Shared → Prop} (hm : OwnM X.K C "__len__" fl) (FL : FnR X.prog X.w X.K X.mg X.base (L2.CX X.prog X.w) n fl spL) (sb : Sub X n A1.in1)
    (I : Inv X pins σ H s) (ha : InsAt H C a) (hk : k < sizeLine) (hsp : ∀ Q', Q' (.int k) H → spL [.ref a] H Q' E0) (h : ∀ b s', Inv X pins σ H s' → Q b s') : wpAny (model X.prog X.w) A1 (Builtin.List.listLengthHint (.ref a)) Q X.xe s := by
  obtain ⟨od, J⟩ := ins_at I ha
  obtain ⟨m, hF⟩ := I.fr
  have z63 : (sizeLine : Nat) < 2 ^ 63 := line63
  unfold Builtin.List.listLengthHint
  refine wpAny_bind (wpAny_bind (J.type.here ((PySem.W.looks_findIn I.kIn hm.at_).here ?_)))
  refine wpAny_bind (wpAny_rule ?_)
  refine wpAny_bind (wpAny_attempt ?_)
  refine PySem.W.len_K hF I.ok.mod.kin J hm.at_ hm.fn ?_
  have I0 : Inv X.nox pins σ H s := I.wish _
  have sb0 : Sub X.nox n A1.in1 := ⟨sb.room, sb.fr⟩
  refine wpAny_mono (run_sub (X := X.nox) (σ := σ) (vs := [V.ref a]) FL sb0 (passAt0 σ) I0 (.cons rfl .nil) (hsp (fun v H' => v = .int k ∧ H' = H) ⟨rfl, rfl⟩)) (fun v s' q => ?_) (fun e s' q => ?_)
  · obtain ⟨x, H', I', r, ex, eH⟩ := q
    subst ex
    rw [eH] at I'
    obtain ⟨t, rfl⟩ := r
    refine ⟨⟨by omega, by omega⟩, ?_⟩
    have tl : Builtin.List.listTooLong ((k : Int).toNat) = false := by
      show decide ((k : Int).toNat > sizeLine) = false
      rw [Int.toNat_natCast]
      exact decide_eq_false (by omega)
    dsimp only
    refine wpAny_bind (wpAny_pure ?_)
    dsimp only
    rw [tl]
    exact wpAny_pure (h _ _ (I'.unwish.tok _))
  · exact q.elim
theorem itO_next {it l : Addr} {i : Nat} {M : Model} {A1 : Around} {Q : Value → Shared → Prop} {E1 : Value → Shared → Prop} (hit : s.heap.IsListIter it l i) (h : Q (.ref it) s) : PySem.W.OwitIt M A1 Q E1 (.ref it) s := by
  unfold PySem.W.OwitIt
  refine wpAny_specialOf (name := Str.ofString "__next__") hit.typeIs slot_listiter_next.lookup ?_
  exact h
theorem call_ownList {fi fl : Addr} {spI spL : Sp} (mi : OwnM X.K C "__iter__" fi) (ml : OwnM X.K C "__len__" fl) (FI : FnR X.prog X.w X.K X.mg X.base (L2.CX X.prog X.w) n fi spI)
    (FL : FnR X.prog X.w X.K X.mg X.base (L2.CX X.prog X.w) n fl spL) (hc : X.calm = true) (hr : Room (n + 3) X.A) : CallR X (.type "list") (rOwnList X.K C spI spL) := by
  intro pins s σ H vs us Q I rv h
  obtain ⟨a, l, xs, rfl, ha, hl, hz, hI, hL, hQ⟩ := h
  obtain ⟨u, rfl, ru⟩ := rv.one
  cases ru
  have sb3 : Sub X n X.A.in1.in1.in1 := room_sub hr
  have sb2 : Sub X n X.A.in1.in1 := Sub.mono (Sub.in1 (Sub.in1 (⟨hr, rfl⟩ : Sub X (n + 3) X.A))) (Nat.le_succ _)
  refine callType_codes (Q₁ := fun obj s₁ => obj = .ref s.heap.objs.size ∧ s₁ = { s with heap := s.heap.push { cls := .type "list", data := .seq #[] } }) PySem.F.called_list (PySem.F.typeCall_list_1 _) PySem.F.entry_list_init
    (code_list_new _ ⟨rfl, rfl⟩) fun obj s₁ h₁ => ?_
  obtain ⟨rfl, rfl⟩ := h₁
  have hS : (s.heap.push { cls := .type "list", data := .seq #[] }).get? s.heap.objs.size = some { cls := .type "list", data := .seq #[] } := Heap.get?_push_size _ rfl
  refine ⟨⟨_, hS, rfl⟩, PySem.F.args_list_init_2 _ _, ?_⟩
  have fr : H s.heap.objs.size = none := I.hok.fresh (Nat.le_refl _)
  generalize hq : s.heap.objs.size = q at *
  have I1 : Inv X pins σ (upd H q (.lst [])) { s with heap := s.heap.push { cls := .type "list", data := .seq #[] } } := by rw [← hq]; exact I.lnew (its := []) (t' := s.toks) .nil (Nat.zero_le _)
  show wpAny _ _ (do let old ← Builtin.List.listItems (.ref q); Builtin.List.listUpdate (.ref q) (fun _ => #[]); letGo old.toList.reverse; Builtin.List.listExtendWith (.ref q) (.ref a) .none) _ _ _
  refine wpAny_bind ?_
  unfold Builtin.List.listItems
  refine wpAny_bind (wpAny_seqItems hS rfl (wpAny_pure ?_))
  show wpAny _ _ (updateSeq q (fun _ => #[]) >>= fun _ => letGo (#[] : Array Value).toList.reverse >>= fun _ => Builtin.List.listExtendWith (.ref q) (.ref a) .none) _ _ _
  refine wpAny_bind (wpAny_updateSeq hS rfl ?_)
  have I2 := I1.lset (f := fun _ => #[]) (its := []) (its' := []) (ys := []) (t' := s.toks) upd_same hS rfl .nil (Nat.zero_le _)
  rw [upd_upd] at I2
  refine wpAny_bind (wpAny_letGo ?_)
  have insQ : ∀ {H' : Hp}, (∀ b o, H b = some o → H' b = some o) → InsAt H' C a := fun k => let ⟨dx, fs, e⟩ := ha; ⟨dx, fs, k _ _ e⟩
  have kq : ∀ (o : HO) b u, H b = some u → upd H q o b = some u := fun o b u e => by rw [upd_ne (ne_of_none e fr)]; exact e
  have haq := insQ (kq (.lst []))
  -- the very extending
  obtain ⟨od, J⟩ := ins_at I2 haq
  obtain ⟨m0, hF⟩ := I2.fr
  have hne : q ≠ a := by
    obtain ⟨dx, fs, e⟩ := ha
    exact fun z => by rw [← z, fr] at e; cases e
  unfold Builtin.List.listExtendWith
  refine wpAny_bind (J.type.here ?_)
  have h1 : Builtin.List.listSameRef (.ref q) (.ref a) = false := by simp [Builtin.List.listSameRef, hne]
  have h2 : (Value.ref C == Value.type "list") = false := rfl
  have h3 : (Value.ref C == Value.type "tuple") = false := rfl
  simp only [h1, h2, h3, Bool.or_false, Bool.false_eq_true, if_false]
  refine wpAny_bind (PySem.W.owit_iter hF I2.ok.mod.kin J mi.at_ mi.fn ?_)
  refine thn (run_sub (σ := σ) (vs := [V.ref a]) FI sb2 (passAt0 σ) I2 (.cons rfl .nil) (hI q (fun v H' => ∃ it, v = .ref it ∧ upd H q (.lst []) it = none ∧ H' = upd (upd H q (.lst [])) it (ItO l it 0)) fr fun it hit => ⟨it, rfl, hit, rfl⟩)) fun v s3 q3 => ?_
  obtain ⟨x, H3, I3, r3, it, ex, hit, eH⟩ := q3
  subst ex
  subst eH
  cases r3
  have nit : it ≠ q := fun z => by rw [z, upd_same] at hit; cases hit
  have hit0 : H it = none := by rw [upd_ne nit] at hit; exact hit
  have kit : ∀ (o : HO) b u, H b = some u → upd (upd H q (.lst [])) it o b = some u := fun o b u e => by rw [upd_ne (ne_of_none e hit0)]; exact kq _ b u e
  refine itO_next (itO_is I3 upd_same) ?_
  refine wpAny_bind (wpAny_holding ?_)
  refine own_hint2 ml FL sb3 I3 (insQ (kit _)) hz (fun Q' hq' => hL q it Q' fr hit0 nit hq') fun b s4 I4 => ?_
  have hqH : upd (upd H q (.lst [])) it (ItO l it 0) q = some (.lst []) := by rw [upd_ne (Ne.symm nit), upd_same]
  have lp : ∀ s5, Inv X pins σ (upd (upd H q (.lst [])) it (ItO l it 0)) s5 → codeAny (model X.prog X.w) X.A.in1 (.builtin "list.extend.loop" ⟨[.ref q, .ref it, .none], []⟩) (wants (fun r s₂ => r = .none ∧ EP X pins σ Q (.ref q) s₂) X.xe) s5 := fun s5 I5 => by
    refine ext_loop (K' := X.K) (xs := xs) (q := q) rfl (show X.A.in1.in1.handled = none from I.ok.hd hc) hz (Ne.symm nit) (fun H' => ∃ u o, H' = upd (upd H q u) it o) (fun H' o u ⟨u', o', e⟩ => ⟨u, o, ?_⟩) (fun H' ⟨u, o, e⟩ => ?_) (fun H' s6 I6 ⟨u, o, e⟩ hq6 => ?_) _ 0 rfl (Nat.zero_le _) _ s5 I5 ⟨_, _, rfl⟩ upd_same (by rw [List.take_zero]; exact hqH)
    · subst e
      funext b
      by_cases hb : b = q
      · subst hb; rw [upd_same, upd_ne (Ne.symm nit), upd_same]
      · by_cases hb' : b = it
        · subst hb'; rw [upd_ne hb, upd_same, upd_same]
        · rw [upd_ne hb, upd_ne hb', upd_ne hb', upd_ne hb, upd_ne hb', upd_ne hb]
    · subst e
      have nl : l ≠ q ∧ l ≠ it ∨ ∃ w', SqL X.K (fun _ => none) l w' ∧ w' = xs := by
        rcases hl with (h | ⟨ob, h⟩) | h
        · exact .inl ⟨ne_of_none h fr, ne_of_none h hit0⟩
        · exact .inl ⟨ne_of_none h fr, ne_of_none h hit0⟩
        · exact .inr ⟨xs, .inr h, rfl⟩
      rcases nl with ⟨n1, n2⟩ | ⟨w', h, rfl⟩
      · rcases hl with (h | ⟨ob, h⟩) | h
        · exact .inl (.inl (by rw [upd_ne n2, upd_ne n1]; exact h))
        · exact .inl (.inr ⟨ob, by rw [upd_ne n2, upd_ne n1]; exact h⟩)
        · exact .inr h
      · rcases h with (h | ⟨ob, h⟩) | h
        · cases h
        · cases h
        · exact .inr h
    · subst e
      rw [upd_ne (Ne.symm nit), upd_same] at hq6
      cases hq6
      exact ⟨rfl, .ref q, _, I6, rfl, hQ q it o fr hit0 nit⟩
  obtain ⟨z, its, k, r3, hl3, e3⟩ := I4.lstM hqH
  cases r3
  refine wpAny_ite_split (fun _ => ?_) (fun _ => wpAny_pure ⟨plainId_quiet PySem.F.plain_extend_loop _, lp s4 I4⟩)
  refine wpAny_bind (wpAny_rule ?_)
  refine wpAny_bind ?_
  show wpAny _ _ (updateSeq q (·.push .none) >>= fun _ => updateSeq q (·.pop)) _ _ _
  refine wpAny_bind (wpAny_updateSeq e3 rfl ?_)
  have I5 := I4.lset (f := (·.push Value.none)) (its' := [Value.none]) (ys := [.non]) (t' := s4.toks) hqH e3 (by simp) (.cons rfl .nil) (by rw [List.length_singleton, sizeLine_eq]; decide)
  obtain ⟨z4, its4, k4, r4, hl4, e4⟩ := I5.lstM upd_same
  obtain ⟨u4, rfl, ru4⟩ := r4.one
  refine wpAny_updateSeq e4 rfl ?_ (by show 1 ≤ sizeLine; rw [sizeLine_eq]; decide) (by show 0 ≤ sizeLine + 1; exact Nat.zero_le _)
  have I6 := I5.lset (f := (·.pop)) (its := [u4]) (its' := []) (ys := []) (t' := s4.toks) upd_same e4 (by rfl) .nil (Nat.zero_le _)
  rw [upd_upd] at I6
  have hH : upd (upd (upd H q (.lst [])) it (ItO l it 0)) q (.lst []) = upd (upd H q (.lst [])) it (ItO l it 0) := by
    funext b
    by_cases hb : b = q
    · rw [hb, upd_same, hqH]
    · rw [upd_ne hb]
  rw [hH] at I6
  exact wpAny_pure ⟨plainId_quiet PySem.F.plain_extend_loop _, lp _ I6⟩
end
end DL

/-! # DL3: the rules at the level of data -/
namespace DL
open PySem L2

/-! ### reading lists -/
def lisM : Option MO → Option (List D)
  | some (.lst xs) => some xs
  | _ => none
theorem lisM_inv {o : Option MO} {ds : List D} (h : lisM o = some ds) : o = some (.lst ds) := by
  cases o with
  | none => cases h
  | some m => cases m <;> first | (cases h; rfl) | cases h
def lisD (μ : Mu) : D → Option (List D)
  | .lst xs => some xs
  | .fro xs => some xs
  | .adr a => lisM (μ a)
  | _ => none
def tupD : D → Option (List D)
  | .tup xs => some xs
  | .ktup xs => some xs
  | _ => none
def itemsD (μ : Mu) : D → Option (List D)
  | .tup xs => some xs
  | .ktup xs => some xs
  | .lst xs => some xs
  | .fro xs => some xs
  | .adr a => lisM (μ a)
  | _ => none
section
variable {K : PySem.W.Frag} {S H : Hp} {μ F : Mu} {v : V} {d : D} {ds : List D}
theorem lis_at (r : R K S H μ F) (a : At K S v d) (h : lisD μ d = some ds) : ∃ p vs, v = .ref p ∧ SqL K H p vs ∧ AtL K S vs ds := by
  cases a with
  | @lst p vs es hs hl hi => cases h; exact ⟨p, vs, rfl, SqL.of (r.lst hs), hl, hi⟩
  | @fro p vs es hs hl hi => cases h; exact ⟨p, vs, rfl, r.sqL hs, hl, hi⟩
  | adr p =>
    obtain ⟨_, o, ho, hm⟩ := r.sto p _ (lisM_inv (show lisM (μ p) = some ds from h))
    cases o <;> first | exact hm.elim | exact ⟨p, _, rfl, SqL.of ho, hm⟩
  | _ => cases h
theorem tup_at (r : R K S H μ F) (a : At K S v d) (h : tupD d = some ds) : ∃ p vs, v = .ref p ∧ SqT K H p vs ∧ AtL K S vs ds := by
  cases a with
  | @tup p vs es hs hl hi => cases h; exact ⟨p, vs, rfl, SqT.of (r.tup hs), hl, hi⟩
  | @ktup p vs es hs hl hi => cases h; exact ⟨p, vs, rfl, r.sqT hs, hl, hi⟩
  | _ => cases h
theorem items_at (r : R K S H μ F) (a : At K S v d) (h : itemsD μ d = some ds) : ∃ p vs, v = .ref p ∧ (SqL K H p vs ∨ SqT K H p vs) ∧ AtL K S vs ds := by
  have hc : lisD μ d = some ds ∨ tupD d = some ds := by
    cases d <;> first | exact .inl h | exact .inr h
  rcases hc with hc | hc
  · obtain ⟨p, vs, e, q, l⟩ := lis_at r a hc; exact ⟨p, vs, e, .inl q, l⟩
  · obtain ⟨p, vs, e, q, l⟩ := tup_at r a hc; exact ⟨p, vs, e, .inr q, l⟩
/-- a list that is tracked and stands by itself -/
theorem own_at (r : R K S H μ F) (a : At K S v d) (h : lisD μ d = some ds) (hf : ∀ xs, d ≠ .fro xs) : ∃ p vs, v = .ref p ∧ H p = some (.lst vs) ∧ AtL K S vs ds := by
  cases a with
  | @lst p vs es hs hl hi => cases h; exact ⟨p, vs, rfl, r.lst hs, hl, hi⟩
  | @fro p vs es hs hl hi => exact (hf _ rfl).elim
  | adr p =>
    obtain ⟨_, o, ho, hm⟩ := r.sto p _ (lisM_inv (show lisM (μ p) = some ds from h))
    cases o <;> first | exact hm.elim | exact ⟨p, _, rfl, ho, hm⟩
  | _ => cases h
end
def noFro : D → Bool
  | .fro _ => false
  | _ => true
theorem noFro_ne {d : D} (h : noFro d = true) : ∀ xs, d ≠ .fro xs := fun xs e => by rw [e] at h; cases h

/-! ### flat data -/
def flatD : D → Option V
  | .non => some .non
  | .bl b => some (.bl b)
  | .int i => some (.int i)
  | .str x => some (.str x)
  | _ => none
theorem flat_at {K : PySem.W.Frag} {S : Hp} {v w : V} {d : D} (a : At K S v d) (h : flatD d = some w) : v = w ∧ flatV v = true := by
  cases a <;> first | (cases h; exact ⟨rfl, rfl⟩) | cases h
theorem flat_all {K : PySem.W.Frag} {S : Hp} : ∀ {vs : List V} {ds : List D}, AtL K S vs ds → ds.all (fun d => (flatD d).isSome) = true → vs = ds.filterMap flatD ∧ vs.all flatV = true
  | [], [], _, _ => ⟨rfl, rfl⟩
  | v :: vs, d :: ds, a, h => by
    rw [List.all_cons, Bool.and_eq_true] at h
    obtain ⟨h1, h2⟩ := h
    obtain ⟨w, hw⟩ := Option.isSome_iff_exists.mp h1
    obtain ⟨e, f⟩ := flat_at a.head hw
    obtain ⟨e', f'⟩ := flat_all a.tail h2
    refine ⟨?_, by rw [List.all_cons, f, f']; rfl⟩
    rw [List.filterMap_cons, hw, ← e', e]
  | [], _ :: _, a, _ => by have := a.1; simp at this
  | _ :: _, [], a, _ => by have := a.1; simp at this
def inD (x : D) (ds : List D) : Bool := match flatD x with
  | some w => inV w (ds.filterMap flatD)
  | none => false

/-! ### names, constants -/
section
variable {X : Cx} {W : WX}
def dVar (i : Nat) : TD := fun γ μ _ Φ => ∃ d, γ[i]? = some (some d) ∧ Φ d μ
theorem e_var (i : Nat) {x : Str} {pos : Pos} (hN : X.N[i]? = some x := by rfl) (hv : Vis X.env.scope x := by first | exact Or.inl rfl | exact Or.inr (Or.inl rfl) | exact Or.inr (Or.inr rfl)) (hd : (x == ("__debug__" : Str)) = false := by decide)
    (hcd : (x == ("__classdict__" : Str)) = false := by decide) : PE X (.Name x pos) (tD X.K W (dVar i)) :=
  pe_imp (pv i hN hv hd hcd) fun σ H Q ⟨S, γ, μ, F, Ξ, Φ, hE, hR, hX, ⟨d, h1, h2⟩, hq⟩ => let ⟨v, h3, h4⟩ := hE.2 i d h1; ⟨v, h3, hq S H v d μ (Le.refl S) hR h4 h2⟩
def dC (d : D) : TD := fun _ μ _ Φ => Φ d μ
theorem d_const {v : V} {d : D} {e : Expr} (h : PE X e (tC v)) (a : ∀ S, At X.K S v d) : PE X e (tD X.K W (dC d)) :=
  pe_imp h fun σ H Q ⟨S, γ, μ, F, Ξ, Φ, hE, hR, hX, hw, hq⟩ => hq S H v d μ (Le.refl S) hR (a S) hw
theorem e_int {i j pos} : PE X (.Constant (.int i) j pos) (tD X.K W (dC (.int i))) := d_const pe_int fun _ => .int _
theorem e_bl {i j pos} : PE X (.Constant (.bool i) j pos) (tD X.K W (dC (.bl i))) := d_const pe_bl fun _ => .bl _
theorem e_non {j pos} : PE X (.Constant .none j pos) (tD X.K W (dC .non)) := d_const pe_non fun _ => .non
theorem e_str {i j pos} : PE X (.Constant (.str i) j pos) (tD X.K W (dC (.str i))) := d_const pe_str fun _ => .str _
/-- a module's constant that is a text -/
theorem e_gstr {x y : Str} {t : Tok} {pos : Pos} (hm : X.mg x = some (.str y t)) (hg : Gl X x := by rfl) (hd : (x == ("__debug__" : Str)) = false := by decide) : PE X (.Name x pos) (tD X.K W (dC (.str y))) := d_const (v := .str y) (pe_glob (v := .str y) hg hm ⟨t, rfl⟩ hd) fun _ => .str _
theorem e_gint {x : Str} {y : Int} {t : Tok} {pos : Pos} (hm : X.mg x = some (.int y t)) (hg : Gl X x := by rfl) (hd : (x == ("__debug__" : Str)) = false := by decide) : PE X (.Name x pos) (tD X.K W (dC (.int y))) := d_const (v := .int y) (pe_glob (v := .int y) hg hm ⟨t, rfl⟩ hd) fun _ => .int _
/-- a class, a def of the module as a value -/
theorem e_gref {x : Str} {a : Addr} {pos : Pos} (hm : X.mg x = some (.ref a)) (hg : Gl X x := by rfl) (hd : (x == ("__debug__" : Str)) = false := by decide) : PE X (.Name x pos) (tD X.K W (dC (.adr a))) := d_const (pe_glob hg hm (v := .ref a) rfl hd) fun _ => .adr _
/-- a tuple of texts that the module's top has made -/
structure KTup (K : PySem.W.Frag) (a : Addr) (xs : List Str) : Prop where
  ex : ∃ (o : Obj) (its : Array Value) (n : Nat), K.lookup a = some o ∧ o.cls = .type "tuple" ∧ o.data = .seq its n ∧ its.size ≤ sizeLine ∧ Vals (xs.map V.str) its.toList
theorem e_gtup {x : Str} {a : Addr} {xs : List Str} {pos : Pos} (hm : X.mg x = some (.ref a)) (hk : KTup X.K a xs) (hg : Gl X x := by rfl) (hd : (x == ("__debug__" : Str)) = false := by decide) : PE X (.Name x pos) (tD X.K W (dC (.ktup (xs.map D.str)))) :=
  d_const (pe_glob hg hm (v := .ref a) rfl hd) fun S => .ktup (.inr hk.ex) (by simp) (atL_strs xs).2

/-! ### operators on two values -/
abbrev OD := D → D → Mu → KD → Prop
def OpD (K : PySem.W.Frag) (r : R2) (w : OD) : Prop := ∀ (S H : Hp) (μ F : Mu) (x y : V) (d e : D) (Φ : KD) (Q : VK), R K S H μ F → At K S x d → At K S y e → w d e μ Φ →
  (∀ S' H' v d' μ', Le S S' → R K S' H' μ' F → At K S' v d' → Φ d' μ' → Q v H') → r x y H Q
def dOp (w : OD) (wa wb : TD) : TD := fun γ μ Ξ Φ => wa γ μ Ξ fun x μ1 => wb γ μ1 Ξ fun y μ2 => w x y μ2 Φ
theorem op_go {r : R2} {w : OD} {wa wb : TD} (hw : OpD X.K r w) {σ : L2.St} {H : Hp} {Q : VK} (h : tD X.K W (dOp w wa wb) σ H Q) : tOp r (tD X.K W wa) (tD X.K W wb) σ H Q := by
  obtain ⟨S, γ, μ, F, Ξ, Φ, hE, hR, hX, hw', hq⟩ := h
  exact ⟨S, γ, μ, F, Ξ, _, hE, hR, hX, hw', fun S1 H1 x d μ1 l1 r1 a1 q1 => ⟨S1, γ, μ1, F, Ξ, _, hE.mono l1, r1, hX.mono l1, q1, fun S2 H2 y e μ2 l2 r2 a2 q2 =>
    hw S2 H2 μ2 F x y d e _ _ r2 (a1.mono l2) a2 q2 fun S3 H3 v d' μ3 l3 r3 a3 q3 => hq S3 H3 v d' μ3 (l1.trans (l2.trans l3)) r3 a3 q3⟩⟩
theorem e_bin {op : Operator} {r : R2} {w : OD} {a b : Expr} {wa wb : TD} {pos : Pos} (ho : OpR X (binaryOp op) r) (hw : OpD X.K r w) (ha : PE X a (tD X.K W wa)) (hb : PE X b (tD X.K W wb)) : PE X (.BinOp a op b pos) (tD X.K W (dOp w wa wb)) :=
  pe_imp (pe_op ho ha hb) fun _ _ _ h => op_go hw h
theorem e_cmp {op : CmpOp} {r : R2} {w : OD} {a b : Expr} {wa wb : TD} {pos : Pos} (ho : OpR X (compareOp op) r) (hw : OpD X.K r w) (ha : PE X a (tD X.K W wa)) (hb : PE X b (tD X.K W wb)) (hm : behindInMarks op b = false := by first | exact nomark _ | rfl) : PE X (.Compare a [op] [b] pos) (tD X.K W (dOp w wa wb)) :=
  pe_imp (pe_cmpR ho ha hb hm) fun _ _ _ h => op_go hw h
def dTest (w : TD) : TDT := fun γ μ Ξ Φ => w γ μ Ξ fun d μ' => ∃ b, d = .bl b ∧ Φ b μ'
theorem At.bl_inv {K : PySem.W.Frag} {S : Hp} {v : V} {b : Bool} (a : At K S v (.bl b)) : v = .bl b := by cases a; rfl
theorem At.int_inv {K : PySem.W.Frag} {S : Hp} {v : V} {b : Int} (a : At K S v (.int b)) : v = .int b := by cases a; rfl
theorem At.str_inv {K : PySem.W.Frag} {S : Hp} {v : V} {b : Str} (a : At K S v (.str b)) : v = .str b := by cases a; rfl
theorem At.adr_inv {K : PySem.W.Frag} {S : Hp} {v : V} {b : Addr} (a : At K S v (.adr b)) : v = .ref b := by cases a; rfl
theorem At.non_inv {K : PySem.W.Frag} {S : Hp} {v : V} (a : At K S v .non) : v = .non := by cases a; rfl
theorem At.ty_inv {K : PySem.W.Frag} {S : Hp} {v : V} {n : String} (a : At K S v (.ty n)) : v = .ty n := by cases a; rfl
theorem t_cmp {op : CmpOp} {r : R2} {w : OD} {a b : Expr} {wa wb : TD} {pos : Pos} (ho : OpR X (compareOp op) r) (hw : OpD X.K r w) (ha : PE X a (tD X.K W wa)) (hb : PE X b (tD X.K W wb)) (hm : behindInMarks op b = false := by first | exact nomark _ | rfl) : PT X (.Compare a [op] [b] pos) (tDT X.K W (dTest (dOp w wa wb))) :=
  pt_imp (pt_cmpR ho ha hb hm) fun σ H Q ⟨S, γ, μ, F, Ξ, Φ, hE, hR, hX, hw', hq⟩ => op_go hw ⟨S, γ, μ, F, Ξ, _, hE, hR, hX, hw', fun S1 H1 v d μ1 l1 r1 a1 ⟨b, e, q1⟩ => ⟨b, by subst e; exact a1.bl_inv, hq S1 H1 b μ1 l1 r1 q1⟩⟩
/-- int and int -/
def oI (C : Int → Int → Prop) (g : Int → Int → D) : OD := fun x y μ Φ => ∃ i j, x = .int i ∧ y = .int j ∧ C i j ∧ Φ (g i j) μ
theorem op_I {K : PySem.W.Frag} {C : Int → Int → Prop} {g : Int → Int → V} {g' : Int → Int → D} (hg : ∀ S i j, At K S (g i j) (g' i j)) : OpD K (rI C g) (oI C g') := by
  intro S H μ F x y d e Φ Q r ax ay ⟨i, j, e1, e2, c, q⟩ k
  subst e1; subst e2
  exact ⟨i, j, ax.int_inv, ay.int_inv, c, k S H _ _ μ (Le.refl S) r (hg S i j) q⟩
def oI0 (g : Int → Int → D) : OD := fun x y μ Φ => ∃ i j, x = .int i ∧ y = .int j ∧ Φ (g i j) μ
theorem op_I0 {K : PySem.W.Frag} {g : Int → Int → V} {g' : Int → Int → D} (hg : ∀ S i j, At K S (g i j) (g' i j)) : OpD K (rI0 g) (oI0 g') := by
  intro S H μ F x y d e Φ Q r ax ay ⟨i, j, e1, e2, q⟩ k
  subst e1; subst e2
  exact ⟨i, j, ax.int_inv, ay.int_inv, k S H _ _ μ (Le.refl S) r (hg S i j) q⟩
/-- + : ints, texts, lists (a new one), tuples (a new one) -/
def oAdd : OD := fun x y μ Φ => match x, y with
  | .int i, .int j => Φ (.int (i + j)) μ
  | .str a, .str b => a.length + b.length ≤ sizeLine ∧ Φ (.str (a ++ b)) μ
  | .tup xs, .tup ys => xs ≠ [] ∧ ys ≠ [] ∧ xs.length + ys.length ≤ sizeLine ∧ Φ (.tup (xs ++ ys)) μ
  | .ktup xs, .tup ys => xs ≠ [] ∧ ys ≠ [] ∧ xs.length + ys.length ≤ sizeLine ∧ Φ (.tup (xs ++ ys)) μ
  | x, y => ∃ xs ys, lisD μ x = some xs ∧ lisD μ y = some ys ∧ noFro x = true ∧ noFro y = true ∧ xs.length + ys.length ≤ sizeLine ∧ Φ (.lst (xs ++ ys)) μ
def rAddA (K : PySem.W.Frag) : R2 := fun x y H Q => rI0 (fun i j => .int (i + j)) x y H Q ∨ (∃ i j, x = .str i ∧ y = .str j ∧ i.length + j.length ≤ sizeLine ∧ Q (.str (i ++ j)) H) ∨ rCatT K x y H Q ∨ rCat x y H Q
theorem op_addA : OpR X (binaryOp .Add) (rAddA X.K) := op_add.or (op_add_str.or (op_catT.or op_cat))
theorem atL_lst {K : PySem.W.Frag} {S : Hp} {p : Addr} {vs : List V} {ds : List D} (h : S p = some (.lst vs)) (a : AtL K S vs ds) : At K S (.ref p) (.lst ds) := .lst h a.1 a.2
theorem atL_tup {K : PySem.W.Frag} {S : Hp} {p : Addr} {vs : List V} {ds : List D} (h : S p = some (.tup vs)) (a : AtL K S vs ds) : At K S (.ref p) (.tup ds) := .tup h a.1 a.2
section
variable {K : PySem.W.Frag} {S H : Hp} {μ F : Mu} {vs : List V} {ds : List D} {Φ : KD} {Q : VK}
theorem new_lst (r : R K S H μ F) (a : AtL K S vs ds) (q : Φ (.lst ds) μ) (k : ∀ S' H' v d' μ', Le S S' → R K S' H' μ' F → At K S' v d' → Φ d' μ' → Q v H') : ∀ p, H p = none → Q (.ref p) (upd H p (.lst vs)) := fun p hp =>
  k (upd S p (.lst vs)) _ _ _ μ (Le.new (r.free hp)) (r.new hp) (atL_lst upd_same (a.mono (Le.new (r.free hp)))) q
theorem new_tup (r : R K S H μ F) (a : AtL K S vs ds) (q : Φ (.tup ds) μ) (k : ∀ S' H' v d' μ', Le S S' → R K S' H' μ' F → At K S' v d' → Φ d' μ' → Q v H') : ∀ p, H p = none → Q (.ref p) (upd H p (.tup vs)) := fun p hp =>
  k (upd S p (.tup vs)) _ _ _ μ (Le.new (r.free hp)) (r.new hp) (atL_tup upd_same (a.mono (Le.new (r.free hp)))) q
theorem new_lstM (r : R K S H μ F) (a : AtL K S vs ds) (q : ∀ p, μ p = none → Φ (.adr p) (updM μ p (.lst ds))) (k : ∀ S' H' v d' μ', Le S S' → R K S' H' μ' F → At K S' v d' → Φ d' μ' → Q v H') : ∀ p, H p = none → Q (.ref p) (upd H p (.lst vs)) := fun p hp =>
  k S _ _ _ _ (Le.refl S) (r.newM (m := .lst ds) hp a) (.adr p) (q p (r.freeM hp))
end
theorem ne_nil {K : PySem.W.Frag} {S : Hp} {vs : List V} {ds : List D} (a : AtL K S vs ds) (h : ds ≠ []) : vs ≠ [] := fun e => h (by have := a.1; rw [e] at this; exact List.length_eq_zero_iff.mp this.symm)
theorem od_add {K : PySem.W.Frag} : OpD K (rAddA K) oAdd := by
  intro S H μ F x y d e Φ Q r ax ay hw k
  have fin : (∃ xs ys, lisD μ d = some xs ∧ lisD μ e = some ys ∧ noFro d = true ∧ noFro e = true ∧ xs.length + ys.length ≤ sizeLine ∧ Φ (.lst (xs ++ ys)) μ) → rAddA K x y H Q := by
    rintro ⟨xs, ys, h1, h2, f1, f2, hz, q⟩
    obtain ⟨p, vs, rfl, e1, l1⟩ := own_at r ax h1 (noFro_ne f1)
    obtain ⟨p2, ws, rfl, e2, l2⟩ := own_at r ay h2 (noFro_ne f2)
    exact .inr (.inr (.inr ⟨p, p2, vs, ws, rfl, rfl, e1, e2, by rw [l1.1, l2.1]; exact hz, new_lst r (l1.append l2) q k⟩))
  have tt : ∀ {xs ys : List D}, tupD d = some xs → tupD e = some ys → xs ≠ [] → ys ≠ [] → xs.length + ys.length ≤ sizeLine → Φ (.tup (xs ++ ys)) μ → rAddA K x y H Q := fun {xs ys} h1 h2 n1 n2 hz q => by
    obtain ⟨p, vs, rfl, e1, l1⟩ := tup_at r ax h1
    obtain ⟨p2, ws, rfl, e2, l2⟩ := tup_at r ay h2
    exact .inr (.inr (.inl ⟨p, p2, vs, ws, rfl, rfl, e1, e2, ne_nil l1 n1, by rw [l1.1, l2.1]; exact hz, fun z => absurd z (ne_nil l2 n2), fun _ => new_tup r (l1.append l2) q k⟩))
  cases d <;> first
    | exact fin hw
    | (cases e <;> first
        | exact fin hw
        | exact tt rfl rfl hw.1 hw.2.1 hw.2.2.1 hw.2.2.2
        | exact .inl ⟨_, _, ax.int_inv, ay.int_inv, k S H _ _ μ (Le.refl S) r (.int _) hw⟩
        | exact .inr (.inl ⟨_, _, ax.str_inv, ay.str_inv, hw.1, k S H _ _ μ (Le.refl S) r (.str _) hw.2⟩))
def oSub : OD := oI0 fun i j => .int (i - j)
theorem od_sub {K : PySem.W.Frag} : OpD K (rI0 fun i j => V.int (i - j)) oSub := op_I0 fun _ _ _ => .int _
def oMul : OD := oI CMul fun i j => .int (i * j)
theorem od_mul {K : PySem.W.Frag} : OpD K (rI CMul fun i j => V.int (i * j)) oMul := op_I fun _ _ _ => .int _
def oDiv : OD := oI CDiv fun i j => .int (i / j)
theorem od_div {K : PySem.W.Frag} : OpD K (rI CDiv fun i j => V.int (i / j)) oDiv := op_I fun _ _ _ => .int _
def oMod : OD := oI (fun _ j => 0 < j) fun i j => .int (i % j)
theorem od_mod {K : PySem.W.Frag} : OpD K (rI (fun _ j => 0 < j) fun i j => V.int (i % j)) oMod := op_I fun _ _ _ => .int _
def oPow : OD := oI CPow fun i j => .int (i ^ j.toNat)
theorem od_pow {K : PySem.W.Frag} : OpD K (rI CPow fun i j => V.int (i ^ j.toNat)) oPow := op_I fun _ _ _ => .int _
def oLt : OD := oI0 fun i j => .bl (decide (i < j))
theorem od_lt {K : PySem.W.Frag} : OpD K (rI0 fun i j => V.bl (decide (i < j))) oLt := op_I0 fun _ _ _ => .bl _
def oLe : OD := oI0 fun i j => .bl (decide (i ≤ j))
theorem od_le {K : PySem.W.Frag} : OpD K (rI0 fun i j => V.bl (decide (i ≤ j))) oLe := op_I0 fun _ _ _ => .bl _
def oGt : OD := oI0 fun i j => .bl (decide (j < i))
theorem od_gt {K : PySem.W.Frag} : OpD K (rI0 fun i j => V.bl (decide (j < i))) oGt := op_I0 fun _ _ _ => .bl _
def oGe : OD := oI0 fun i j => .bl (decide (j ≤ i))
theorem od_ge {K : PySem.W.Frag} : OpD K (rI0 fun i j => V.bl (decide (j ≤ i))) oGe := op_I0 fun _ _ _ => .bl _
/-- is None, is not None -/
def oIs (neg : Bool) : OD := fun x y μ Φ => y = .non ∧ Φ (.bl (match x with | .non => !neg | _ => neg)) μ
theorem od_isN {K : PySem.W.Frag} : OpD K (fun x y H Q => y = .non ∧ Q (.bl (decide (x = .non))) H) (oIs false) := by
  intro S H μ F x y d e Φ Q r ax ay ⟨h, q⟩ k
  subst h
  refine ⟨ay.non_inv, k S H _ _ μ (Le.refl S) r ?_ q⟩
  cases ax <;> exact .bl _
theorem od_notN {K : PySem.W.Frag} : OpD K (fun x y H Q => y = .non ∧ Q (.bl (!decide (x = .non))) H) (oIs true) := by
  intro S H μ F x y d e Φ Q r ax ay ⟨h, q⟩ k
  subst h
  refine ⟨ay.non_inv, k S H _ _ μ (Le.refl S) r ?_ q⟩
  cases ax <;> exact .bl _
/-! == -/
mutual
def toP (μ : Mu) : D → Option PyData
  | .non => some .none
  | .bl b => some (.bool b)
  | .int i => some (.int i)
  | .str x => some (.str x)
  | .lst xs => (toPs μ xs).map .list
  | .fro xs => (toPs μ xs).map .list
  | .tup xs => (toPs μ xs).map .tuple
  | .ktup xs => (toPs μ xs).map .tuple
  | _ => none
def toPs (μ : Mu) : List D → Option (List PyData)
  | [] => some []
  | x :: xs => match toP μ x, toPs μ xs with
    | some p, some ps => some (p :: ps)
    | _, _ => none
end
/-- also a list of the store, of plain data -/
def toPM (μ : Mu) : D → Option PyData
  | .adr a => (lisM (μ a)).bind fun xs => (toPs μ xs).map .list
  | d => toP μ d
section
variable {K : PySem.W.Frag} {S H : Hp} {μ F : Mu}
mutual
theorem dp_of (r : R K S H μ F) : ∀ {d : D} {v : V} {p : PyData}, At K S v d → toP μ d = some p → Dp K H v p
  | .non, v, p, a, h => by rw [toP] at h; cases h; cases a; exact .non
  | .bl b, v, p, a, h => by rw [toP] at h; cases h; cases a; exact .bl _
  | .int b, v, p, a, h => by rw [toP] at h; cases h; cases a; exact .int _
  | .str b, v, p, a, h => by rw [toP] at h; cases h; cases a; exact .str _
  | .lst xs, v, p, a, h => by
    rw [toP] at h
    cases e : toPs μ xs with
    | none => rw [e] at h; cases h
    | some ps =>
      rw [e] at h; cases h
      cases a with
      | lst hs hl hi => exact .lst (SqL.of (r.lst hs)) (dps_of r ⟨hl, hi⟩ e)
  | .fro xs, v, p, a, h => by
    rw [toP] at h
    cases e : toPs μ xs with
    | none => rw [e] at h; cases h
    | some ps =>
      rw [e] at h; cases h
      cases a with
      | fro hs hl hi => exact .lst (r.sqL hs) (dps_of r ⟨hl, hi⟩ e)
  | .tup xs, v, p, a, h => by
    rw [toP] at h
    cases e : toPs μ xs with
    | none => rw [e] at h; cases h
    | some ps =>
      rw [e] at h; cases h
      cases a with
      | tup hs hl hi => exact .tup (SqT.of (r.tup hs)) (dps_of r ⟨hl, hi⟩ e)
  | .ktup xs, v, p, a, h => by
    rw [toP] at h
    cases e : toPs μ xs with
    | none => rw [e] at h; cases h
    | some ps =>
      rw [e] at h; cases h
      cases a with
      | ktup hs hl hi => exact .tup (r.sqT hs) (dps_of r ⟨hl, hi⟩ e)
  | .adr _, _, _, _, h => by simp [toP] at h
  | .ty _, _, _, _, h => by simp [toP] at h
  | .dK _, _, _, _, h => by simp [toP] at h
  | .dT _, _, _, _, h => by simp [toP] at h
  | .ins _ _, _, _, _, h => by simp [toP] at h
theorem dps_of (r : R K S H μ F) : ∀ {ds : List D} {vs : List V} {ps : List PyData}, AtL K S vs ds → toPs μ ds = some ps → DpAll K H vs ps
  | [], [], ps, a, h => by rw [toPs] at h; cases h; exact .nil
  | [], _ :: _, ps, a, h => by have := a.1; simp at this
  | d :: ds, [], ps, a, h => by have := a.1; simp at this
  | d :: ds, v :: vs, ps, a, h => by
    rw [toPs] at h
    cases e : toP μ d with
    | none => rw [e] at h; cases h
    | some p =>
      cases e2 : toPs μ ds with
      | none => rw [e, e2] at h; cases h
      | some ps' =>
        rw [e, e2] at h; cases h
        exact .cons (dp_of r a.head e) (dps_of r a.tail e2)
end
theorem dpm_of (r : R K S H μ F) {d : D} {v : V} {p : PyData} (a : At K S v d) (h : toPM μ d = some p) : Dp K H v p := by
  cases d with
  | adr b =>
    have h : ((lisM (μ b)).bind fun xs => (toPs μ xs).map .list) = some p := h
    cases e : lisM (μ b) with
    | none => rw [e] at h; cases h
    | some xs =>
      rw [e] at h
      obtain ⟨_, o, ho, hm⟩ := r.sto b _ (lisM_inv e)
      have h : (toPs μ xs).map PyData.list = some p := h
      cases e2 : toPs μ xs with
      | none => rw [e2] at h; cases h
      | some ps =>
        rw [e2] at h; cases h
        cases o <;> first | exact hm.elim | (rw [a.adr_inv]; exact .lst (SqL.of ho) (dps_of r hm e2))
  | _ => exact dp_of r a h
end
def oEq (neg : Bool) : OD := fun x y μ Φ => match x, y with
  | .int i, .int j => Φ (.bl (if neg then !decide (i = j) else decide (i = j))) μ
  | .str i, .str j => Φ (.bl (if neg then !decide (i = j) else decide (i = j))) μ
  | .bl i, .bl j => Φ (.bl (if neg then !decide (i = j) else decide (i = j))) μ
  | x, y => ∃ p q, toPM μ x = some p ∧ toPM μ y = some q ∧ SeqAt.shaped p = true ∧ SeqAt.shaped q = true ∧ Φ (.bl (if neg then !PyData.eqv p q else PyData.eqv p q)) μ
def rEqA (K : PySem.W.Frag) : R2 := fun x y H Q => rEq x y H Q ∨ rEqD K x y H Q
def rNeA (K : PySem.W.Frag) : R2 := fun x y H Q => rNe x y H Q ∨ rNeD K x y H Q
theorem op_eqA {k : Nat} (hr : Room k X.A) : OpR X (compareOp .Eq) (rEqA X.K) := op_eq.or (op_eqD hr.units)
theorem op_neA {k : Nat} (hr : Room k X.A) : OpR X (compareOp .NotEq) (rNeA X.K) := op_ne.or (op_neD hr.units)
theorem dec_iI (i j : Int) : decide (V.int i = V.int j) = decide (i = j) := by by_cases h : i = j <;> simp [h]
theorem dec_iS (i j : Str) : decide (V.str i = V.str j) = decide (i = j) := by by_cases h : i = j <;> simp [h]
theorem dec_iB (i j : Bool) : decide (V.bl i = V.bl j) = decide (i = j) := by by_cases h : i = j <;> simp [h]
theorem od_eq {K : PySem.W.Frag} : OpD K (rEqA K) (oEq false) := by
  intro S H μ F x y d e Φ Q r ax ay hw k
  have fin : (∃ p q, toPM μ d = some p ∧ toPM μ e = some q ∧ SeqAt.shaped p = true ∧ SeqAt.shaped q = true ∧ Φ (.bl (PyData.eqv p q)) μ) → rEqA K x y H Q := by
    rintro ⟨p, q, h1, h2, s1, s2, h⟩
    exact .inr ⟨p, q, dpm_of r ax h1, dpm_of r ay h2, s1, s2, k S H _ _ μ (Le.refl S) r (.bl _) h⟩
  cases d <;> first
    | exact fin hw
    | (cases e <;> first
        | exact fin hw
        | (cases ax; cases ay; refine .inl ⟨rfl, ?_⟩; first | rw [dec_iI] | rw [dec_iS] | rw [dec_iB]
           exact k S H _ _ μ (Le.refl S) r (.bl _) hw))
theorem od_ne {K : PySem.W.Frag} : OpD K (rNeA K) (oEq true) := by
  intro S H μ F x y d e Φ Q r ax ay hw k
  have fin : (∃ p q, toPM μ d = some p ∧ toPM μ e = some q ∧ SeqAt.shaped p = true ∧ SeqAt.shaped q = true ∧ Φ (.bl (!PyData.eqv p q)) μ) → rNeA K x y H Q := by
    rintro ⟨p, q, h1, h2, s1, s2, h⟩
    exact .inr ⟨p, q, dpm_of r ax h1, dpm_of r ay h2, s1, s2, k S H _ _ μ (Le.refl S) r (.bl _) h⟩
  cases d <;> first
    | exact fin hw
    | (cases e <;> first
        | exact fin hw
        | (cases ax; cases ay; refine .inl ⟨rfl, ?_⟩; first | rw [dec_iI] | rw [dec_iS] | rw [dec_iB]
           exact k S H _ _ μ (Le.refl S) r (.bl _) hw))
/-- x in xs, flat items -/
def oIn (neg : Bool) : OD := fun x y μ Φ => ∃ ds, itemsD μ y = some ds ∧ (flatD x).isSome = true ∧ ds.all (fun d => (flatD d).isSome) = true ∧ Φ (.bl (if neg then !inD x ds else inD x ds)) μ
theorem od_in {K : PySem.W.Frag} {neg : Bool} : OpD K (rIn K neg) (oIn neg) := by
  intro S H μ F x y d e Φ Q r ax ay ⟨ds, h1, h2, h3, q⟩ k
  obtain ⟨p, vs, rfl, hs, hl⟩ := items_at r ay h1
  obtain ⟨w, hw⟩ := Option.isSome_iff_exists.mp h2
  obtain ⟨ex, fx⟩ := flat_at ax hw
  obtain ⟨ev, fv⟩ := flat_all hl h3
  have e : inD d ds = inV x vs := by unfold inD; rw [hw, ← ev, ex]
  exact ⟨p, vs, rfl, hs, fx, fv, k S H _ _ μ (Le.refl S) r (by rw [← e]; exact .bl _) q⟩
end
end DL

/-! # DL4: tests, calls, fields, displays, statements, loops, defs -/
namespace DL
open PySem L2

section
variable {X : Cx} {W : WX}
/-! ### tests -/
def dAnd (t u : TDT) : TDT := fun γ μ Ξ Φ => t γ μ Ξ fun b μ1 => if b = true then u γ μ1 Ξ Φ else Φ false μ1
def dOr (t u : TDT) : TDT := fun γ μ Ξ Φ => t γ μ Ξ fun b μ1 => if b = true then Φ true μ1 else u γ μ1 Ξ Φ
def dNot (t : TDT) : TDT := fun γ μ Ξ Φ => t γ μ Ξ fun b μ1 => Φ (!b) μ1
section
variable {a b : Expr} {rest : List Expr} {t u : TDT} {pos : Pos}
theorem w_and1 (h : PT X a (tDT X.K W t)) : PW X (.BoolOp .And [a] pos) (tDT X.K W t) := pw_and1 h
theorem w_or1 (h : PT X a (tDT X.K W t)) : PW X (.BoolOp .Or [a] pos) (tDT X.K W t) := pw_or1 h
theorem w_and (ha : PT X a (tDT X.K W t)) (hb : PW X (.BoolOp .And (b :: rest) pos) (tDT X.K W u)) : PW X (.BoolOp .And (a :: b :: rest) pos) (tDT X.K W (dAnd t u)) :=
  pw_imp (pw_and ha hb) fun σ H Q ⟨S, γ, μ, F, Ξ, Φ, hE, hR, hX, hw, hq⟩ => ⟨S, γ, μ, F, Ξ, _, hE, hR, hX, hw, fun S1 H1 c μ1 l1 r1 q1 => by
    cases c with
    | true => rw [if_pos rfl] at q1 ⊢; exact ⟨S1, γ, μ1, F, Ξ, Φ, hE.mono l1, r1, hX.mono l1, q1, fun S2 H2 d μ2 l2 r2 q2 => hq S2 H2 d μ2 (l1.trans l2) r2 q2⟩
    | false => rw [if_neg Bool.false_ne_true] at q1 ⊢; exact hq S1 H1 false μ1 l1 r1 q1⟩
theorem w_or (ha : PT X a (tDT X.K W t)) (hb : PW X (.BoolOp .Or (b :: rest) pos) (tDT X.K W u)) : PW X (.BoolOp .Or (a :: b :: rest) pos) (tDT X.K W (dOr t u)) :=
  pw_imp (pw_or ha hb) fun σ H Q ⟨S, γ, μ, F, Ξ, Φ, hE, hR, hX, hw, hq⟩ => ⟨S, γ, μ, F, Ξ, _, hE, hR, hX, hw, fun S1 H1 c μ1 l1 r1 q1 => by
    cases c with
    | false => rw [if_neg Bool.false_ne_true] at q1 ⊢; exact ⟨S1, γ, μ1, F, Ξ, Φ, hE.mono l1, r1, hX.mono l1, q1, fun S2 H2 d μ2 l2 r2 q2 => hq S2 H2 d μ2 (l1.trans l2) r2 q2⟩
    | true => rw [if_pos rfl] at q1 ⊢; exact hq S1 H1 true μ1 l1 r1 q1⟩
theorem t_not (ha : PT X a (tDT X.K W t)) : PT X (.UnaryOp .Not a pos) (tDT X.K W (dNot t)) :=
  pt_imp (pt_not ha) fun σ H Q ⟨S, γ, μ, F, Ξ, Φ, hE, hR, hX, hw, hq⟩ => ⟨S, γ, μ, F, Ξ, _, hE, hR, hX, hw, fun S1 H1 c μ1 l1 r1 q1 => hq S1 H1 (!c) μ1 l1 r1 q1⟩
/-- truth -/
def truD (μ : Mu) : D → Option Bool
  | .non => some false
  | .bl b => some b
  | .int i => some (i != 0)
  | .str x => if x.length ≤ sizeLine then some ((x.length : Int) != 0) else none
  | .lst xs => some (!xs.isEmpty)
  | .fro xs => some (!xs.isEmpty)
  | .tup xs => some (!xs.isEmpty)
  | .ktup xs => some (!xs.isEmpty)
  | .adr a => match μ a with
    | some (.lst xs) => some (!xs.isEmpty)
    | some (.dK kvs) => some (!kvs.isEmpty)
    | _ => none
  | _ => none
theorem empty_at {K : PySem.W.Frag} {S : Hp} {vs : List V} {ds : List D} (a : AtL K S vs ds) : vs.isEmpty = ds.isEmpty := by
  have := a.1
  cases vs <;> cases ds <;> first | rfl | (simp at this)
theorem tru_at {K : PySem.W.Frag} {S H : Hp} {μ F : Mu} {v : V} {d : D} {b : Bool} (r : R K S H μ F) (a : At K S v d) (h : truD μ d = some b) : TruV K v H b := by
  cases a with
  | non => cases h; rfl
  | bl c => cases h; rfl
  | int i => cases h; rfl
  | str x =>
    have h : (if x.length ≤ sizeLine then some ((x.length : Int) != 0) else none) = some b := h
    by_cases z : x.length ≤ sizeLine
    · rw [if_pos z] at h; cases h; exact ⟨z, rfl⟩
    · rw [if_neg z] at h; cases h
  | lst hs hl hi => cases h; exact .inl ⟨_, SqL.of (r.lst hs), by rw [empty_at ⟨hl, hi⟩]⟩
  | fro hs hl hi => cases h; exact .inl ⟨_, r.sqL hs, by rw [empty_at ⟨hl, hi⟩]⟩
  | tup hs hl hi => cases h; exact .inr (.inl ⟨_, SqT.of (r.tup hs), by rw [empty_at ⟨hl, hi⟩]⟩)
  | ktup hs hl hi => cases h; exact .inr (.inl ⟨_, r.sqT hs, by rw [empty_at ⟨hl, hi⟩]⟩)
  | adr p =>
    have h : (match μ p with
      | some (MO.lst xs) => some (!xs.isEmpty)
      | some (MO.dK kvs) => some (!kvs.isEmpty)
      | _ => none) = some b := h
    cases e : μ p with
    | none => rw [e] at h; cases h
    | some m =>
      obtain ⟨_, o, ho, hm⟩ := r.sto p m e
      rw [e] at h
      cases m with
      | lst xs => cases h; cases o <;> first | exact hm.elim | exact .inl ⟨_, SqL.of ho, by rw [empty_at hm]⟩
      | dK kvs =>
        cases h
        cases o <;> first | exact hm.elim | exact .inr (.inr ⟨_, ho, by
          have := hm.2.1
          simp only [List.length_map] at this
          rename_i k1
          cases k1 <;> cases kvs <;> first | rfl | (simp at this)⟩)
      | _ => cases h
  | _ => cases h
def dTru (w : TD) : TDT := fun γ μ Ξ Φ => w γ μ Ξ fun d μ1 => ∃ b, truD μ1 d = some b ∧ Φ b μ1
theorem t_tru {w : TD} (ha : PE X a (tD X.K W w)) (he : ∀ whole, isTrue a X.env whole = (do let v ← whole; standAt a.pos; holding [v] (truthy v)) := by intro _; rfl) : PT X a (tDT X.K W (dTru w)) :=
  pt_imp (pt_truth ha he) fun σ H Q ⟨S, γ, μ, F, Ξ, Φ, hE, hR, hX, hw, hq⟩ => ⟨S, γ, μ, F, Ξ, _, hE, hR, hX, hw, fun S1 H1 v d μ1 l1 r1 a1 ⟨b, e, q1⟩ => ⟨b, tru_at r1 a1 e, hq S1 H1 b μ1 l1 r1 q1⟩⟩
/-- values of and, or, not: bools -/
def dAndV (wa wb : TD) : TD := fun γ μ Ξ Φ => wa γ μ Ξ fun d μ1 => ∃ c, d = .bl c ∧ if c = true then wb γ μ1 Ξ Φ else Φ (.bl false) μ1
def dOrV (wa wb : TD) : TD := fun γ μ Ξ Φ => wa γ μ Ξ fun d μ1 => ∃ c, d = .bl c ∧ if c = true then Φ (.bl true) μ1 else wb γ μ1 Ξ Φ
def dNotV (wa : TD) : TD := fun γ μ Ξ Φ => wa γ μ Ξ fun d μ1 => ∃ c, d = .bl c ∧ Φ (.bl (!c)) μ1
theorem e_one {op} {w : TD} (h : PE X a (tD X.K W w)) : PE X (.BoolOp op [a] pos) (tD X.K W w) := pe_one h
theorem e_and {wa wb : TD} (ha : PE X a (tD X.K W wa)) (hb : PE X (.BoolOp .And (b :: rest) pos) (tD X.K W wb)) : PE X (.BoolOp .And (a :: b :: rest) pos) (tD X.K W (dAndV wa wb)) :=
  pe_imp (pe_and ha hb) fun σ H Q ⟨S, γ, μ, F, Ξ, Φ, hE, hR, hX, hw, hq⟩ => ⟨S, γ, μ, F, Ξ, _, hE, hR, hX, hw, fun S1 H1 v d μ1 l1 r1 a1 ⟨c, e, q1⟩ => ⟨c, by subst e; exact a1.bl_inv, by
    cases c with
    | true => rw [if_pos rfl] at q1 ⊢; exact ⟨S1, γ, μ1, F, Ξ, Φ, hE.mono l1, r1, hX.mono l1, q1, fun S2 H2 v2 d μ2 l2 r2 a2 q2 => hq S2 H2 v2 d μ2 (l1.trans l2) r2 a2 q2⟩
    | false => rw [if_neg Bool.false_ne_true] at q1 ⊢; exact hq S1 H1 _ _ μ1 l1 r1 (.bl false) q1⟩⟩
theorem e_or {wa wb : TD} (ha : PE X a (tD X.K W wa)) (hb : PE X (.BoolOp .Or (b :: rest) pos) (tD X.K W wb)) : PE X (.BoolOp .Or (a :: b :: rest) pos) (tD X.K W (dOrV wa wb)) :=
  pe_imp (pe_or ha hb) fun σ H Q ⟨S, γ, μ, F, Ξ, Φ, hE, hR, hX, hw, hq⟩ => ⟨S, γ, μ, F, Ξ, _, hE, hR, hX, hw, fun S1 H1 v d μ1 l1 r1 a1 ⟨c, e, q1⟩ => ⟨c, by subst e; exact a1.bl_inv, by
    cases c with
    | false => rw [if_neg Bool.false_ne_true] at q1 ⊢; exact ⟨S1, γ, μ1, F, Ξ, Φ, hE.mono l1, r1, hX.mono l1, q1, fun S2 H2 v2 d μ2 l2 r2 a2 q2 => hq S2 H2 v2 d μ2 (l1.trans l2) r2 a2 q2⟩
    | true => rw [if_pos rfl] at q1 ⊢; exact hq S1 H1 _ _ μ1 l1 r1 (.bl true) q1⟩⟩
theorem e_not {wa : TD} (ha : PE X a (tD X.K W wa)) : PE X (.UnaryOp .Not a pos) (tD X.K W (dNotV wa)) :=
  pe_imp (pe_not ha) fun σ H Q ⟨S, γ, μ, F, Ξ, Φ, hE, hR, hX, hw, hq⟩ => ⟨S, γ, μ, F, Ξ, _, hE, hR, hX, hw, fun S1 H1 v d μ1 l1 r1 a1 ⟨c, e, q1⟩ => ⟨c, by subst e; exact a1.bl_inv, hq S1 H1 _ _ μ1 l1 r1 (.bl _) q1⟩⟩
def dIfE (t : TDT) (wa wb : TD) : TD := fun γ μ Ξ Φ => t γ μ Ξ fun c μ1 => if c = true then wa γ μ1 Ξ Φ else wb γ μ1 Ξ Φ
theorem e_if {c : Expr} {wa wb : TD} (hc : PT X c (tDT X.K W t)) (ha : PE X a (tD X.K W wa)) (hb : PE X b (tD X.K W wb)) : PE X (.IfExp c a b pos) (tD X.K W (dIfE t wa wb)) :=
  pe_imp (pe_ifExp hc ha hb) fun σ H Q ⟨S, γ, μ, F, Ξ, Φ, hE, hR, hX, hw, hq⟩ => ⟨S, γ, μ, F, Ξ, _, hE, hR, hX, hw, fun S1 H1 c μ1 l1 r1 q1 => by
    cases c with
    | true => rw [if_pos rfl] at q1 ⊢; exact ⟨S1, γ, μ1, F, Ξ, Φ, hE.mono l1, r1, hX.mono l1, q1, fun S2 H2 v2 d μ2 l2 r2 a2 q2 => hq S2 H2 v2 d μ2 (l1.trans l2) r2 a2 q2⟩
    | false => rw [if_neg Bool.false_ne_true] at q1 ⊢; exact ⟨S1, γ, μ1, F, Ξ, Φ, hE.mono l1, r1, hX.mono l1, q1, fun S2 H2 v2 d μ2 l2 r2 a2 q2 => hq S2 H2 v2 d μ2 (l1.trans l2) r2 a2 q2⟩⟩
/-- a <= b < c -/
def dChain (o1 o2 : OD) (wa wb wc : TD) : TDT := fun γ μ Ξ Φ => wa γ μ Ξ fun x μ1 => wb γ μ1 Ξ fun y μ2 => o1 x y μ2 fun z μ3 => ∃ k, z = .bl k ∧ if k = true then wc γ μ3 Ξ fun z2 μ4 => o2 y z2 μ4 fun d μ5 => ∃ k2, d = .bl k2 ∧ Φ k2 μ5 else Φ false μ3
end

/-! ### arguments -/
def dNil : TDA := fun _ μ _ Φ => Φ [] μ
def dCons (w : TD) (t : TDA) : TDA := fun γ μ Ξ Φ => w γ μ Ξ fun d μ1 => t γ μ1 Ξ fun ds μ2 => Φ (d :: ds) μ2
theorem a_nil : PA X [] (tDA X.K W dNil) := pa_imp pa_nil fun σ H Q ⟨S, γ, μ, F, Ξ, Φ, hE, hR, hX, hw, hq⟩ => hq S H [] [] μ (Le.refl S) hR .nil hw
theorem a_cons {e : Expr} {es : List Expr} {w : TD} {t : TDA} (he : PE X e (tD X.K W w)) (hr : PA X es (tDA X.K W t)) (hs : starEach (e :: es) X.env = (false, eval e X.env) :: starEach es X.env := by rfl) : PA X (e :: es) (tDA X.K W (dCons w t)) :=
  pa_imp (pa_cons he hr hs) fun σ H Q ⟨S, γ, μ, F, Ξ, Φ, hE, hR, hX, hw, hq⟩ => ⟨S, γ, μ, F, Ξ, _, hE, hR, hX, hw, fun S1 H1 v d μ1 l1 r1 a1 q1 => ⟨S1, γ, μ1, F, Ξ, _, hE.mono l1, r1, hX.mono l1, q1, fun S2 H2 vs ds μ2 l2 r2 a2 q2 =>
    hq S2 H2 _ _ μ2 (l1.trans l2) r2 (.cons (a1.mono l2) a2) q2⟩⟩
def dStar (w : TD) (t : TDA) : TDA := fun γ μ Ξ Φ => w γ μ Ξ fun d μ1 => ∃ xs, itemsD μ1 d = some xs ∧ t γ μ1 Ξ fun ds μ2 => Φ (xs ++ ds) μ2
theorem a_star {e : Expr} {es : List Expr} {w : TD} {t : TDA} {p : Pos} (he : PE X e (tD X.K W w)) (hr : PA X es (tDA X.K W t)) (hs : starEach (.Starred e p :: es) X.env = (true, eval e X.env) :: starEach es X.env := by rfl) : PA X (.Starred e p :: es) (tDA X.K W (dStar w t)) :=
  pa_imp (StX.pa_star he hr hs) fun σ H Q ⟨S, γ, μ, F, Ξ, Φ, hE, hR, hX, hw, hq⟩ => ⟨S, γ, μ, F, Ξ, _, hE, hR, hX, hw, fun S1 H1 v d μ1 l1 r1 a1 ⟨xs, ex, q1⟩ => by
    obtain ⟨p, vs, rfl, hs, hl⟩ := items_at r1 a1 ex
    exact ⟨p, vs, rfl, hs.symm, S1, γ, μ1, F, Ξ, _, hE.mono l1, r1, hX.mono l1, q1, fun S2 H2 ws ds μ2 l2 r2 a2 q2 => hq S2 H2 _ _ μ2 (l1.trans l2) r2 ((hl.mono l2).append a2) q2⟩⟩

/-! ### defs and their promises -/
abbrev XF := Value → List (Str × D) → Mu → Prop
abbrev TF := List D → Mu → XF → KD → Prop
def SpD (K : PySem.W.Frag) (w : TF) : Sp := fun vs H Q E => ∃ S ds μ F Ξ Φ, AtL K S vs ds ∧ R K S H μ F ∧ w ds μ Ξ Φ ∧ (∀ S' H' v d μ', Le S S' → R K S' H' μ' F → At K S' v d → Φ d μ' → Q v H') ∧
  ∀ S' H' cls xd fs μ', Le S S' → R K S' H' μ' F → XAt K S' xd fs → Ξ cls fs μ' → E cls xd H'
/-- what a call of f gives, by data -/
def CalD (X : Cx) (W : WX) (f : Addr) (w : TF) : Prop := CallS X f fun σ vs H Q => ∃ S γ ds μ F Ξ Φ, Env X.K S σ γ ∧ AtL X.K S vs ds ∧ R X.K S H μ F ∧ XOk X.K S F W Ξ ∧ w ds μ (Ξ γ) Φ ∧ ∀ S' H' v d μ', Le S S' → R X.K S' H' μ' F → At X.K S' v d → Φ d μ' → Q v H'
theorem cal_imp {f : Addr} {r r' : RS} (h : CallS X f r) (i : ∀ σ vs H Q, r' σ vs H Q → r σ vs H Q) : CallS X f r' := fun pins s σ H vs us Q I rv q => h pins s σ H vs us Q I rv (i σ vs H Q q)
abbrev FnD (P : Program) (w : World) (K : PySem.W.Frag) (mg : Str → Option Value) (base : Heap) (k : Nat) (f : Addr) (t : TF) : Prop := FnR P w K mg base (L2.CX P w) k f (SpD K t)
theorem cal_def {n : Nat} {f : Addr} {w : TF} (F : FnD X.prog X.w X.K X.mg X.base n f w) (hr : Room n X.A) (tk : Takes X W) : CalD X W f w :=
  cal_imp (calls_def F hr (Ew := WE W) fun σ => passAt tk σ) fun σ vs H Q ⟨S, γ, ds, μ, F, Ξ, Φ, hE, ha, hR, hX, hw, hq⟩ =>
    ⟨S, ds, μ, F, Ξ γ, Φ, ha, hR, hw, hq, fun S' H' cls xd fs μ' l r x q => hX S' H' σ γ cls xd fs μ' l (hE.mono l) r x q⟩
/-- a class is called: a new instance, then __init__ -/
def wMake (C : Addr) (w : TF) : TF := fun ds μ Ξ Φ => ∀ x, μ x = none → w (.adr x :: ds) (updM μ x (.ins C [])) Ξ fun d μ' => d = .non ∧ Φ (.adr x) μ'
theorem cal_class {n : Nat} {f C : Addr} {w : TF} (M : Mk X.K C f) (F : FnD X.prog X.w X.K X.mg X.base n f w) (hr : Room (n + 1) X.A) (tk : Takes X W) : CalD X W C (wMake C w) :=
  cal_imp (calls_class M F hr (Ew := WE W) fun σ => passAt tk σ) fun σ vs H Q ⟨S, γ, ds, μ, F, Ξ, Φ, hE, ha, hR, hX, hw, hq⟩ => fun x dx hx hdx hne => by
    have r1 : R X.K S (upd H dx (.own x)) μ F := hR.newF hdx
    have hx1 : upd H dx (HO.own x) x = none := by rw [upd_ne (Ne.symm hne)]; exact hx
    have r2 : R X.K S (upd (upd H dx (.own x)) x (.ins C dx [])) (updM μ x (.ins C [])) F := r1.newM hx1 ⟨rfl, rfl, .nil⟩
    refine ⟨S, .adr x :: ds, _, F, Ξ γ, _, .cons (.adr x) ha, r2, hw x (hR.freeM hx), fun S' H' v d μ' l r a ⟨e, q⟩ => ?_, fun S' H' cls xd fs μ' l r x q => hX S' H' σ γ cls xd fs μ' l (hE.mono l) r x q⟩
    subst e
    exact ⟨a.non_inv, hq S' H' (.ref x) (.adr x) μ' l r (.adr x) q⟩
def dCall (w : TF) (t : TDA) : TD := fun γ μ Ξ Φ => t γ μ Ξ fun ds μ1 => w ds μ1 (Ξ γ) Φ
section
variable {f C : Addr} {w : TF} {x m : Str} {e o : Expr} {es : List Expr} {t : TDA} {we wo : TD} {p pos apos sp_ : Pos}
theorem call_go {σ : L2.St} {H : Hp} {Q : VK} (h : tD X.K W (dCall w t) σ H Q) : tDA X.K W t σ H fun vs H1 => ∃ S γ ds μ F Ξ Φ, Env X.K S σ γ ∧ AtL X.K S vs ds ∧ R X.K S H1 μ F ∧ XOk X.K S F W Ξ ∧ w ds μ (Ξ γ) Φ ∧ ∀ S' H' v d μ', Le S S' → R X.K S' H' μ' F → At X.K S' v d → Φ d μ' → Q v H' := by
  obtain ⟨S, γ, μ, F, Ξ, Φ, hE, hR, hX, hw, hq⟩ := h
  exact ⟨S, γ, μ, F, Ξ, _, hE, hR, hX, hw, fun S1 H1 vs ds μ1 l1 r1 a1 q1 => ⟨S1, γ, ds, μ1, F, Ξ, Φ, hE.mono l1, a1, r1, hX.mono l1, q1, fun S2 H2 v d μ2 l2 r2 a2 q2 => hq S2 H2 v d μ2 (l1.trans l2) r2 a2 q2⟩⟩
theorem e_call (c : CalD X W f w) (hm : X.mg x = some (.ref f)) (hk : PySem.W.keepIn X.K (.ref f) = true) (ha : PA X (e :: es) (tDA X.K W t)) (hg : Gl X x := by rfl) (hdb : (x == ("__debug__" : Str)) = false := by decide)
    (he : starEach (e :: es) X.env = (false, eval e X.env) :: starEach es X.env := by rfl) (hpl : (backTo pos (starEach es X.env)).any (·.1) = false := by rfl) : PE X (.Call (.Name x p) (e :: es) [] pos) (tD X.K W (dCall w t)) :=
  pe_imp (pe_cs c hm hk ha hg hdb he hpl) fun _ _ _ h => call_go h
theorem e_callT (c : CalD X W f w) (hm : X.mg x = some (.ref f)) (hk : PySem.W.keepIn X.K (.ref f) = true) (ha : PA X (e :: es) (tDA X.K W t)) (hg : Gl X x := by rfl) (hdb : (x == ("__debug__" : Str)) = false := by decide)
    (he : starEach (e :: es) X.env = (false, eval e X.env) :: starEach es X.env := by rfl) (hst : (backTo pos (starEach es X.env)).any (·.1) = true := by rfl) : PE X (.Call (.Name x p) (e :: es) [] pos) (tD X.K W (dCall w t)) :=
  pe_imp (pe_csT c hm hk ha hg hdb he hst) fun _ _ _ h => call_go h
theorem e_call0 (c : CalD X W f w) (hm : X.mg x = some (.ref f)) (hk : PySem.W.keepIn X.K (.ref f) = true) (hg : Gl X x := by rfl) (hdb : (x == ("__debug__" : Str)) = false := by decide) : PE X (.Call (.Name x p) [] [] pos) (tD X.K W (dCall w dNil)) :=
  pe_imp (pe_cs0 c hm hk hg hdb) fun σ H Q ⟨S, γ, μ, F, Ξ, Φ, hE, hR, hX, hw, hq⟩ => ⟨S, γ, [], μ, F, Ξ, Φ, hE, .nil, hR, hX, hw, hq⟩
theorem e_callS (c : CalD X W f w) (hm : X.mg x = some (.ref f)) (hk : PySem.W.keepIn X.K (.ref f) = true) (he : PE X e (tD X.K W we)) (hg : Gl X x := by rfl) (hdb : (x == ("__debug__" : Str)) = false := by decide)
    (hst : starEach [.Starred e sp_] X.env = [(true, eval e X.env)] := by rfl) : PE X (.Call (.Name x p) [.Starred e sp_] [] pos) (tD X.K W (dCall w (dStar we dNil))) :=
  pe_imp (pe_csS c hm hk he hg hdb hst) fun σ H Q ⟨S, γ, μ, F, Ξ, Φ, hE, hR, hX, hw, hq⟩ => ⟨S, γ, μ, F, Ξ, _, hE, hR, hX, hw, fun S1 H1 v d μ1 l1 r1 a1 ⟨xs, ex, q1⟩ => by
    obtain ⟨p, vs, rfl, hs, hl⟩ := items_at r1 a1 ex
    have q1 : w (xs ++ []) μ1 (Ξ γ) Φ := q1
    rw [List.append_nil] at q1
    exact ⟨p, vs, rfl, hs.symm, S1, γ, xs, μ1, F, Ξ, Φ, hE.mono l1, hl, r1, hX.mono l1, q1, fun S2 H2 v d μ2 l2 r2 a2 q2 => hq S2 H2 v d μ2 (l1.trans l2) r2 a2 q2⟩⟩
/-- an instance: its class, its fields -/
def insM : Option MO → Option (Addr × List (Str × D))
  | some (.ins C fs) => some (C, fs)
  | _ => none
theorem insM_inv {o : Option MO} {C : Addr} {fs : List (Str × D)} (h : insM o = some (C, fs)) : o = some (.ins C fs) := by
  cases o with
  | none => cases h
  | some m => cases m <;> first | (cases h; rfl) | cases h
def insD (μ : Mu) : D → Option (Addr × List (Str × D))
  | .ins C fs => some (C, fs)
  | .adr a => insM (μ a)
  | _ => none
theorem ins_d {K : PySem.W.Frag} {S H : Hp} {μ F : Mu} {v : V} {d : D} {C : Addr} {gs : List (Str × D)} (r : R K S H μ F) (a : At K S v d) (h : insD μ d = some (C, gs)) :
    ∃ p dx fs, v = .ref p ∧ H p = some (.ins C dx fs) ∧ fs.map (·.1) = gs.map (·.1) ∧ AtL K S (fs.map (·.2)) (gs.map (·.2)) := by
  cases a with
  | @ins p C' dx fs gs' hs hk hi =>
    cases h
    exact ⟨p, dx, fs, rfl, r.ins hs, hk, by have := congrArg List.length hk; simpa using this, hi⟩
  | adr p =>
    obtain ⟨_, o, ho, hm⟩ := r.sto p _ (insM_inv (show insM (μ p) = some (C, gs) from h))
    cases o <;> first | exact hm.elim | (obtain ⟨rfl, h1, h2⟩ := hm; exact ⟨p, _, _, rfl, ho, h1, h2⟩)
  | _ => cases h
theorem look_none {fs : List (Str × V)} {gs : List (Str × D)} {m : Str} (h : fs.map (·.1) = gs.map (·.1)) (g : gs.lookup m = none) : fs.lookup m = none := by
  induction fs generalizing gs with
  | nil => rfl
  | cons p fs ih =>
    cases gs with
    | nil => simp at h
    | cons q gs =>
      simp only [List.map_cons, List.cons.injEq] at h
      obtain ⟨n, v⟩ := p
      obtain ⟨n2, d⟩ := q
      simp only at h
      obtain ⟨e, h⟩ := h
      subst e
      rw [List.lookup_cons] at g ⊢
      cases z : (m == n) with
      | true => rw [z] at g; cases g
      | false => rw [z] at g; exact ih h g
theorem look_some {K : PySem.W.Frag} {S : Hp} {fs : List (Str × V)} {gs : List (Str × D)} {m : Str} {d : D} (h : fs.map (·.1) = gs.map (·.1)) (a : AtL K S (fs.map (·.2)) (gs.map (·.2))) (g : gs.lookup m = some d) : ∃ v, fs.lookup m = some v ∧ At K S v d := by
  induction fs generalizing gs with
  | nil => cases gs with
    | nil => cases g
    | cons q gs => simp at h
  | cons p fs ih =>
    cases gs with
    | nil => simp at h
    | cons q gs =>
      simp only [List.map_cons, List.cons.injEq] at h
      obtain ⟨n, v⟩ := p
      obtain ⟨n2, d2⟩ := q
      simp only at h
      obtain ⟨e, h⟩ := h
      subst e
      rw [List.lookup_cons] at g ⊢
      cases z : (m == n) with
      | true => rw [z] at g; cases g; exact ⟨v, rfl, a.head⟩
      | false => rw [z] at g; exact ih h a.tail g
def dMeth (C : Addr) (m : Str) (w : TF) (wo : TD) (t : TDA) : TD := fun γ μ Ξ Φ => wo γ μ Ξ fun d μ1 => ∃ fs, insD μ1 d = some (C, fs) ∧ fs.lookup m = none ∧ t γ μ1 Ξ fun ds μ2 => w (d :: ds) μ2 (Ξ γ) Φ
theorem e_meth {pl : Sem Bool} (c : CalD X W f w) (cl : Cls X.K C) (hm : Meth X.K C m f) (ho : PE X o (tD X.K W wo)) (ha : PA X (e :: es) (tDA X.K W t))
    (hst : starEach (e :: es) X.env = (false, eval e X.env) :: starEach es X.env := by rfl) (hpl : (backTo pos (starEach es X.env)).any (·.1) = false := by rfl)
    (ht : eval (.Call (.Attribute o m apos) (e :: es) [] pos) X.env = (do
      let ov ← eval o X.env
      standAt apos.atName
      let (f, first) ← holding [ov] (getMethod ov m pl)
      callWith pos f first (backTo pos (starEach (e :: es) X.env)) (backToKw pos (keywordEach [] X.env))) := by rfl) : PE X (.Call (.Attribute o m apos) (e :: es) [] pos) (tD X.K W (dMeth C m w wo t)) :=
  pe_imp (pe_ms ho cl hm c ha hst hpl ht) fun σ H Q ⟨S, γ, μ, F, Ξ, Φ, hE, hR, hX, hw, hq⟩ => ⟨S, γ, μ, F, Ξ, _, hE, hR, hX, hw, fun S1 H1 v d μ1 l1 r1 a1 ⟨fs, h1, h2, q1⟩ => by
    obtain ⟨p, dx, vs, rfl, hp, hk, hl⟩ := ins_d r1 a1 h1
    exact ⟨p, dx, vs, rfl, hp, look_none hk h2, S1, γ, μ1, F, Ξ, _, hE.mono l1, r1, hX.mono l1, q1, fun S2 H2 ws ds μ2 l2 r2 a2 q2 => ⟨S2, γ, d :: ds, μ2, F, Ξ, Φ, hE.mono (l1.trans l2), .cons (a1.mono l2) a2, r2, hX.mono (l1.trans l2), q2, fun S3 H3 v d μ3 l3 r3 a3 q3 => hq S3 H3 v d μ3 (l1.trans (l2.trans l3)) r3 a3 q3⟩⟩⟩
theorem e_meth0 {pl : Sem Bool} (c : CalD X W f w) (cl : Cls X.K C) (hm : Meth X.K C m f) (ho : PE X o (tD X.K W wo))
    (ht : eval (.Call (.Attribute o m apos) [] [] pos) X.env = (do
      let ov ← eval o X.env
      standAt apos.atName
      let (f, first) ← holding [ov] (getMethod ov m pl)
      callWith pos f first (backTo pos (starEach [] X.env)) (backToKw pos (keywordEach [] X.env))) := by rfl) : PE X (.Call (.Attribute o m apos) [] [] pos) (tD X.K W (dMeth C m w wo dNil)) :=
  pe_imp (pe_ms0 ho cl hm c ht) fun σ H Q ⟨S, γ, μ, F, Ξ, Φ, hE, hR, hX, hw, hq⟩ => ⟨S, γ, μ, F, Ξ, _, hE, hR, hX, hw, fun S1 H1 v d μ1 l1 r1 a1 ⟨fs, h1, h2, q1⟩ => by
    obtain ⟨p, dx, vs, rfl, hp, hk, hl⟩ := ins_d r1 a1 h1
    exact ⟨p, dx, vs, rfl, hp, look_none hk h2, S1, γ, [d], μ1, F, Ξ, Φ, hE.mono l1, .cons a1 .nil, r1, hX.mono l1, q1, fun S3 H3 v d μ3 l3 r3 a3 q3 => hq S3 H3 v d μ3 (l1.trans l3) r3 a3 q3⟩⟩

/-! ### fields -/
def dFld (C : Addr) (f : Str) (w : TD) : TD := fun γ μ Ξ Φ => w γ μ Ξ fun d μ1 => ∃ fs x, insD μ1 d = some (C, fs) ∧ fs.lookup f = some x ∧ Φ x μ1
theorem e_fld {fn : Str} (cl : Cls X.K C) (na : NoAttr X.K C fn) (ho : PE X e (tD X.K W we)) (hb : attributeBase e fn X.env (eval e X.env) = eval e X.env := by rfl) : PE X (.Attribute e fn pos) (tD X.K W (dFld C fn we)) :=
  pe_imp (pe_fld ho hb) fun σ H Q ⟨S, γ, μ, F, Ξ, Φ, hE, hR, hX, hw, hq⟩ => ⟨S, γ, μ, F, Ξ, _, hE, hR, hX, hw, fun S1 H1 v d μ1 l1 r1 a1 ⟨fs, x, h1, h2, q1⟩ => by
    obtain ⟨p, dx, vs, rfl, hp, hk, hl⟩ := ins_d r1 a1 h1
    obtain ⟨u, h3, h4⟩ := look_some hk hl h2
    exact ⟨p, C, dx, vs, u, rfl, hp, cl, na, h3, hq S1 H1 u x μ1 l1 r1 h4 q1⟩⟩
def putD (f : Str) (d : D) : List (Str × D) → List (Str × D)
  | [] => [(f, d)]
  | (n, x) :: r => if n = f then (f, d) :: r else (n, x) :: putD f d r
end
end
end DL

/-! # DL5: stores, displays, built-ins, statements, loops, comprehensions, defs -/
namespace DL
open PySem L2

/-! ### fields -/
theorem putD_names (f : Str) (d : D) (v : V) : ∀ {fs : List (Str × V)} {gs : List (Str × D)}, fs.map (·.1) = gs.map (·.1) → (putF f v fs).map (·.1) = (putD f d gs).map (·.1)
  | [], [], _ => rfl
  | [], _ :: _, h => by simp at h
  | _ :: _, [], h => by simp at h
  | (n, x) :: fs, (n2, y) :: gs, h => by
    simp only [List.map_cons, List.cons.injEq] at h
    obtain ⟨e, h⟩ := h
    subst e
    unfold putF putD
    by_cases z : n = f
    · rw [if_pos z, if_pos z]; simp [h, z]
    · rw [if_neg z, if_neg z]; simp [putD_names f d v h]
theorem putD_vals {K : PySem.W.Frag} {S : Hp} {f : Str} {d : D} {v : V} (a : At K S v d) : ∀ {fs : List (Str × V)} {gs : List (Str × D)}, fs.map (·.1) = gs.map (·.1) → AtL K S (fs.map (·.2)) (gs.map (·.2)) → AtL K S ((putF f v fs).map (·.2)) ((putD f d gs).map (·.2))
  | [], [], _, _ => .cons a .nil
  | [], _ :: _, h, _ => by simp at h
  | _ :: _, [], h, _ => by simp at h
  | (n, x) :: fs, (n2, y) :: gs, h, l => by
    simp only [List.map_cons, List.cons.injEq] at h
    obtain ⟨e, h⟩ := h
    subst e
    unfold putF putD
    by_cases z : n = f
    · rw [if_pos z, if_pos z]; exact .cons a l.tail
    · rw [if_neg z, if_neg z]; exact .cons l.head (putD_vals a h l.tail)
section
variable {X : Cx} {W : WX}
def dSFld (C : Addr) (f : Str) (wo wv : TD) : TDS := fun DD γ μ Ξ => wv γ μ Ξ fun d μ1 => wo γ μ1 Ξ fun o μ2 => ∃ a fs, o = .adr a ∧ μ2 a = some (.ins C fs) ∧ fs.length < 1000 ∧ DD.nx γ (updM μ2 a (.ins C (putD f d fs)))
theorem s_fld {C : Addr} {fn : Str} {o value : Expr} {wo wv : TD} {pos pos' : Pos} (cl : Cls X.K C) (na : NoAttr X.K C fn) (ho : PE X o (tD X.K W wo)) (hv : PE X value (tD X.K W wv)) (hs : swapsWith value (some (.Attribute o fn pos')) pos.line X.env = pure false := by rfl) :
    PS X (.Assign [.Attribute o fn pos'] value pos) (tDS X.K W (dSFld C fn wo wv)) :=
  ps_imp (ps_fld ho hv hs) fun D σ H ⟨S, γ, μ, F, Ξ, DD, hE, hR, hX, hw, hD⟩ => ⟨S, γ, μ, F, Ξ, _, hE, hR, hX, hw, fun S1 H1 v d μ1 l1 r1 a1 q1 => ⟨S1, γ, μ1, F, Ξ, _, hE.mono l1, r1, hX.mono l1, q1, fun S2 H2 ov od μ2 l2 r2 a2 ⟨a, fs, e, h1, h2, q2⟩ => by
    subst e
    obtain ⟨_, ho, hp, hm⟩ := r2.sto a _ h1
    cases ho <;> first
      | exact hm.elim
      | (obtain ⟨rfl, hk, hl⟩ := hm
         have hz := congrArg List.length hk
         simp only [List.length_map] at hz
         exact ⟨a, _, _, _, a2.adr_inv, hp, cl, na, by omega, hD.nx S2 _ σ γ _ (l1.trans l2) (hE.mono (l1.trans l2)) (r2.write (m := .ins _ (putD fn d fs)) h1 ⟨rfl, putD_names fn d v hk, putD_vals (a1.mono l2) hk hl⟩) q2⟩)⟩⟩

/-! ### displays -/
def dTup (t : TDA) : TD := fun γ μ Ξ Φ => t γ μ Ξ fun ds μ1 => ds.length ≤ sizeLine ∧ Φ (.tup ds) μ1
def dLst (t : TDA) : TD := fun γ μ Ξ Φ => t γ μ Ξ fun ds μ1 => ds.length ≤ sizeLine ∧ Φ (.lst ds) μ1
def dLstM (t : TDA) : TD := fun γ μ Ξ Φ => t γ μ Ξ fun ds μ1 => ds.length ≤ sizeLine ∧ ∀ p, μ1 p = none → Φ (.adr p) (updM μ1 p (.lst ds))
section
variable {es : List Expr} {t : TDA} {pos : Pos}
theorem e_tup {x1} (h : PA X es (tDA X.K W t)) : PE X (.Tuple es x1 pos) (tD X.K W (dTup t)) :=
  pe_imp (pe_tup h) fun σ H Q ⟨S, γ, μ, F, Ξ, Φ, hE, hR, hX, hw, hq⟩ => ⟨S, γ, μ, F, Ξ, _, hE, hR, hX, hw, fun S1 H1 vs ds μ1 l1 r1 a1 ⟨hz, q1⟩ => ⟨by rw [a1.1]; exact hz, new_tup r1 a1 q1 fun S2 H2 v d μ2 l2 r2 a2 q2 => hq S2 H2 v d μ2 (l1.trans l2) r2 a2 q2⟩⟩
theorem e_lst (h : PA X es (tDA X.K W t)) : PE X (.List es pos) (tD X.K W (dLst t)) :=
  pe_imp (pe_lst h) fun σ H Q ⟨S, γ, μ, F, Ξ, Φ, hE, hR, hX, hw, hq⟩ => ⟨S, γ, μ, F, Ξ, _, hE, hR, hX, hw, fun S1 H1 vs ds μ1 l1 r1 a1 ⟨hz, q1⟩ => ⟨by rw [a1.1]; exact hz, new_lst r1 a1 q1 fun S2 H2 v d μ2 l2 r2 a2 q2 => hq S2 H2 v d μ2 (l1.trans l2) r2 a2 q2⟩⟩
theorem e_lstM (h : PA X es (tDA X.K W t)) : PE X (.List es pos) (tD X.K W (dLstM t)) :=
  pe_imp (pe_lst h) fun σ H Q ⟨S, γ, μ, F, Ξ, Φ, hE, hR, hX, hw, hq⟩ => ⟨S, γ, μ, F, Ξ, _, hE, hR, hX, hw, fun S1 H1 vs ds μ1 l1 r1 a1 ⟨hz, q1⟩ => ⟨by rw [a1.1]; exact hz, new_lstM r1 a1 q1 fun S2 H2 v d μ2 l2 r2 a2 q2 => hq S2 H2 v d μ2 (l1.trans l2) r2 a2 q2⟩⟩
end
/-- what was made may be read as what never changes: a list, an instance of the store, by its value -/
def frzM : Option MO → Option D
  | some (.lst xs) => some (.lst xs)
  | some (.ins C fs) => some (.ins C fs)
  | some (.dK kvs) => some (.dK kvs)
  | some (.dT kvs) => some (.dT kvs)
  | none => none
theorem freeze_at {K : PySem.W.Frag} {S H : Hp} {μ F : Mu} {a : Addr} {d : D} (r : R K S H μ F) (h : frzM (μ a) = some d) : ∃ S', Le S S' ∧ R K S' H (delM μ a) F ∧ At K S' (.ref a) d := by
  cases e : μ a with
  | none => rw [e] at h; cases h
  | some m =>
    rw [e] at h
    obtain ⟨hs, o, ho, hm⟩ := r.sto a m e
    have hf : F a = none := by
      cases z : F a with
      | none => rfl
      | some u => have q := (r.frm a u z).1; rw [e] at q; cases q
    have l : Le S (upd S a o) := Le.new hs
    refine ⟨upd S a o, l, r.freeze ho hs hf, ?_⟩
    cases m with
    | lst xs => cases h; cases o <;> first | exact hm.elim | exact atL_lst upd_same (hm.mono l)
    | dK kvs => cases h; cases o <;> first | exact hm.elim | exact .dK upd_same hm.1 (hm.2.mono l).2
    | dT kvs => cases h; cases o <;> first | exact hm.elim | exact .dT upd_same hm.1 (hm.2.mono l).2
    | ins C fs => cases h; cases o <;> first | exact hm.elim | (obtain ⟨rfl, h1, h2⟩ := hm; exact .ins upd_same h1 (h2.mono l).2)
/-- an expression whose value is an object of the store that from here on changes no more -/
def dFrz (w : TD) : TD := fun γ μ Ξ Φ => w γ μ Ξ fun d μ1 => ∃ a x, d = .adr a ∧ frzM (μ1 a) = some x ∧ Φ x (delM μ1 a)
theorem e_frz {e : Expr} {w : TD} (h : PE X e (tD X.K W w)) : PE X e (tD X.K W (dFrz w)) :=
  pe_imp h fun σ H Q ⟨S, γ, μ, F, Ξ, Φ, hE, hR, hX, hw, hq⟩ => ⟨S, γ, μ, F, Ξ, _, hE, hR, hX, hw, fun S1 H1 v d μ1 l1 r1 a1 ⟨a, x, e1, h1, q1⟩ => by
    subst e1
    obtain ⟨S2, l2, r2, a2⟩ := freeze_at r1 h1
    rw [a1.adr_inv]
    exact hq S2 H1 _ x _ (l1.trans l2) r2 a2 q1⟩

/-! ### subscripts -/
def oIx : OD := fun x y μ Φ => match x, y with
  | .str z, .int i => ∃ c, z.length ≤ sizeLine ∧ atI z.cps.toList i = some c ∧ Φ (.str ⟨#[c]⟩) μ
  | x, .int i => ∃ ds d, itemsD μ x = some ds ∧ atI ds i = some d ∧ Φ d μ
  | _, _ => False
theorem atI_at {K : PySem.W.Frag} {S : Hp} {vs : List V} {ds : List D} {i : Int} {d : D} (a : AtL K S vs ds) (h : atI ds i = some d) : ∃ v, atI vs i = some v ∧ At K S v d := by
  unfold atI at h ⊢
  rw [a.1]
  cases e : ixN ds.length i with
  | none => rw [e] at h; cases h
  | some j => rw [e] at h; exact a.get h
theorem od_ix {K : PySem.W.Frag} : OpD K (rIx K) oIx := by
  intro S H μ F x y d e Φ Q r ax ay hw k
  have fin : ∀ i, e = .int i → (∃ ds d', itemsD μ d = some ds ∧ atI ds i = some d' ∧ Φ d' μ) → rIx K x y H Q := by
    rintro i rfl ⟨ds, d', h1, h2, q⟩
    obtain ⟨p, vs, rfl, hs, hl⟩ := items_at r ax h1
    obtain ⟨v, h3, h4⟩ := atI_at hl h2
    rcases hs with hs | hs
    · exact .inl ⟨p, vs, i, v, rfl, ay.int_inv, hs, h3, k S H v d' μ (Le.refl S) r h4 q⟩
    · exact .inr (.inl ⟨p, vs, i, v, rfl, ay.int_inv, hs, h3, k S H v d' μ (Le.refl S) r h4 q⟩)
  cases e with
  | int i =>
    cases d with
    | str z => obtain ⟨c, h1, h2, q⟩ := hw; exact .inr (.inr ⟨z, i, c, ax.str_inv, ay.int_inv, h1, h2, k S H _ _ μ (Le.refl S) r (.str _) q⟩)
    | _ => exact fin i rfl hw
  | _ => cases d <;> exact hw.elim
theorem e_ix {a b : Expr} {wa wb : TD} {pos : Pos} (ha : PE X a (tD X.K W wa)) (hb : PE X b (tD X.K W wb)) (hs : PlainIx b := by exact fun _ _ => rfl) : PE X (.Subscript a b pos) (tD X.K W (dOp oIx wa wb)) :=
  pe_imp (pe_ix ix_seq ha hb hs) fun _ _ _ h => op_go od_ix h
/-- slices of lists -/
abbrev TDO := Ga → Mu → XD → (Option Int → Mu → Prop) → Prop
def tDO (K : PySem.W.Frag) (W : WX) (w : TDO) : TO := fun σ H Q => ∃ S γ μ F Ξ Φ, Env K S σ γ ∧ R K S H μ F ∧ XOk K S F W Ξ ∧ w γ μ Ξ Φ ∧ ∀ S' H' o μ', Le S S' → R K S' H' μ' F → Φ o μ' → Q o H'
def dNoPart : TDO := fun _ μ _ Φ => Φ none μ
def dPart (w : TD) : TDO := fun γ μ Ξ Φ => w γ μ Ξ fun d μ1 => ∃ i, d = .int i ∧ Φ (some i) μ1
theorem po_imp {e : Option Expr} {t t' : TO} (h : PO X e t) (i : ∀ σ H Q, t' σ H Q → t σ H Q) : PO X e t' := ⟨fun p s σ H Q I q => h.run p s σ H Q I (i σ H Q q)⟩
theorem o_none : PO X none (tDO X.K W dNoPart) := po_imp po_none fun σ H Q ⟨S, γ, μ, F, Ξ, Φ, hE, hR, hX, hw, hq⟩ => hq S H none μ (Le.refl S) hR hw
theorem o_some {e : Expr} {w : TD} (h : PE X e (tD X.K W w)) : PO X (some e) (tDO X.K W (dPart w)) :=
  po_imp (po_some h) fun σ H Q ⟨S, γ, μ, F, Ξ, Φ, hE, hR, hX, hw, hq⟩ => ⟨S, γ, μ, F, Ξ, _, hE, hR, hX, hw, fun S1 H1 v d μ1 l1 r1 a1 ⟨i, e, q1⟩ => ⟨i, by subst e; exact a1.int_inv, hq S1 H1 _ μ1 l1 r1 q1⟩⟩
def cutD (ds : List D) (lo hi : Option Int) : List D := (ds.drop (HT.sIx ds.length 0 lo)).take (HT.sIx ds.length ds.length hi - HT.sIx ds.length 0 lo)
theorem cut_at {K : PySem.W.Frag} {S : Hp} {vs : List V} {ds : List D} (a : AtL K S vs ds) (lo hi : Option Int) : AtL K S (cutV vs lo hi) (cutD ds lo hi) := by
  unfold cutV cutD
  rw [a.1]
  exact a.cut _ _
def dSl (w : TD) (wl wh : TDO) : TD := fun γ μ Ξ Φ => w γ μ Ξ fun d μ1 => wl γ μ1 Ξ fun lo μ2 => wh γ μ2 Ξ fun hi μ3 => ∃ ds, lisD μ3 d = some ds ∧ Φ (.lst (cutD ds lo hi)) μ3
theorem e_sl {e : Expr} {w : TD} {lo hi : Option Expr} {wl wh : TDO} {p2 pos : Pos} (he : PE X e (tD X.K W w)) (hl : PO X lo (tDO X.K W wl)) (hh : PO X hi (tDO X.K W wh)) : PE X (.Subscript e (.Slice lo hi none p2) pos) (tD X.K W (dSl w wl wh)) :=
  pe_imp (pe_slice sl_list he hl hh) fun σ H Q ⟨S, γ, μ, F, Ξ, Φ, hE, hR, hX, hw, hq⟩ => ⟨S, γ, μ, F, Ξ, _, hE, hR, hX, hw, fun S1 H1 v d μ1 l1 r1 a1 q1 => ⟨S1, γ, μ1, F, Ξ, _, hE.mono l1, r1, hX.mono l1, q1, fun S2 H2 o μ2 l2 r2 q2 => ⟨S2, γ, μ2, F, Ξ, _, hE.mono (l1.trans l2), r2, hX.mono (l1.trans l2), q2, fun S3 H3 o2 μ3 l3 r3 ⟨ds, h1, q3⟩ => by
    obtain ⟨p, vs, rfl, hs, hl⟩ := lis_at r3 ((a1.mono l2).mono l3) h1
    exact ⟨p, vs, rfl, hs, new_lst r3 (cut_at hl o o2) q3 fun S4 H4 v d μ4 l4 r4 a4 q4 => hq S4 H4 v d μ4 (l1.trans (l2.trans (l3.trans l4))) r4 a4 q4⟩⟩⟩⟩
/-- slices of tuples, not the whole of one -/
def dSlT (w : TD) (wl wh : TDO) : TD := fun γ μ Ξ Φ => w γ μ Ξ fun d μ1 => wl γ μ1 Ξ fun lo μ2 => wh γ μ2 Ξ fun hi μ3 => ∃ ds, tupD d = some ds ∧ (cutD ds lo hi).length ≠ ds.length ∧ Φ (.tup (cutD ds lo hi)) μ3

/-! ### built-ins -/
abbrev BF := List D → Mu → KD → Prop
def BiD (K : PySem.W.Frag) (r : List V → Hp → VK → Prop) (w : BF) : Prop := ∀ (S H : Hp) (μ F : Mu) (vs : List V) (ds : List D) (Φ : KD) (Q : VK), R K S H μ F → AtL K S vs ds → w ds μ Φ →
  (∀ S' H' v d' μ', Le S S' → R K S' H' μ' F → At K S' v d' → Φ d' μ' → Q v H') → r vs H Q
def dBi (w : BF) (t : TDA) : TD := fun γ μ Ξ Φ => t γ μ Ξ fun ds μ1 => w ds μ1 Φ
theorem bi_go {r : List V → Hp → VK → Prop} {w : BF} {t : TDA} (hw : BiD X.K r w) {σ : L2.St} {H : Hp} {Q : VK} (h : tD X.K W (dBi w t) σ H Q) : tCB r (tDA X.K W t) σ H Q := by
  obtain ⟨S, γ, μ, F, Ξ, Φ, hE, hR, hX, hw', hq⟩ := h
  exact ⟨S, γ, μ, F, Ξ, _, hE, hR, hX, hw', fun S1 H1 vs ds μ1 l1 r1 a1 q1 => hw S1 H1 μ1 F vs ds _ _ r1 a1 q1 fun S2 H2 v d μ2 l2 r2 a2 q2 => hq S2 H2 v d μ2 (l1.trans l2) r2 a2 q2⟩
section
variable {r : List V → Hp → VK → Prop} {w : BF} {t : TDA} {id T : String} {x : Str} {e : Expr} {es : List Expr} {p pos : Pos}
theorem e_bi (hc : CallR X (.builtin id) r) (hw : BiD X.K r w) (hm : X.mg x = none) (ha : PA X (e :: es) (tDA X.K W t)) (hv : bootBuiltins x = some (.builtin id) := by decide +kernel) (hg : Gl X x := by rfl) (hn : x ≠ "__name__" := by decide) (hdb : (x == ("__debug__" : Str)) = false := by decide)
    (he : starEach (e :: es) X.env = (false, eval e X.env) :: starEach es X.env := by rfl) (hpl : (backTo pos (starEach es X.env)).any (·.1) = false := by rfl) : PE X (.Call (.Name x p) (e :: es) [] pos) (tD X.K W (dBi w t)) :=
  pe_imp (pe_callB hc hg hm hv ha hn hdb he hpl) fun _ _ _ h => bi_go hw h
theorem e_bt (hc : CallR X (.type T) r) (hw : BiD X.K r w) (hm : X.mg x = none) (ha : PA X (e :: es) (tDA X.K W t)) (hv : bootBuiltins x = some (.type T) := by decide +kernel) (hg : Gl X x := by rfl) (hn : x ≠ "__name__" := by decide) (hdb : (x == ("__debug__" : Str)) = false := by decide)
    (he : starEach (e :: es) X.env = (false, eval e X.env) :: starEach es X.env := by rfl) (hpl : (backTo pos (starEach es X.env)).any (·.1) = false := by rfl) : PE X (.Call (.Name x p) (e :: es) [] pos) (tD X.K W (dBi w t)) :=
  pe_imp (pe_callTy hc hg hm hv ha hn hdb he hpl) fun _ _ _ h => bi_go hw h
end
theorem atL1 {K : PySem.W.Frag} {S : Hp} {vs : List V} {d : D} (a : AtL K S vs [d]) : ∃ v, vs = [v] ∧ At K S v d := by
  cases vs with
  | nil => have := a.1; simp at this
  | cons v vs =>
    cases vs with
    | nil => exact ⟨v, rfl, a.head⟩
    | cons u us => have := a.1; simp at this
theorem atL2 {K : PySem.W.Frag} {S : Hp} {vs : List V} {d e : D} (a : AtL K S vs [d, e]) : ∃ v w, vs = [v, w] ∧ At K S v d ∧ At K S w e := by
  cases vs with
  | nil => have := a.1; simp at this
  | cons v vs =>
    obtain ⟨w, rfl, h⟩ := atL1 a.tail
    exact ⟨v, w, rfl, a.head, h⟩
/-- len -/
def lenD (μ : Mu) : D → Option Nat
  | .str x => if x.length ≤ sizeLine then some x.length else none
  | d => (itemsD μ d).map List.length
def bLen : BF := fun ds μ Φ => ∃ d n, ds = [d] ∧ lenD μ d = some n ∧ Φ (.int n) μ
def rLenA (K : PySem.W.Frag) : List V → Hp → VK → Prop := fun xs H Q => ∃ x n, xs = [x] ∧ LenV K x H n ∧ Q (.int n) H
theorem bd_len {K : PySem.W.Frag} : BiD K (rLenA K) bLen := by
  rintro S H μ F vs ds Φ Q r a ⟨d, n, rfl, h, q⟩ k
  obtain ⟨v, rfl, av⟩ := atL1 a
  refine ⟨v, n, rfl, ?_, k S H _ _ μ (Le.refl S) r (.int _) q⟩
  have fin : (itemsD μ d).map List.length = some n → LenV K v H n := fun h => by
    cases e : itemsD μ d with
    | none => rw [e] at h; cases h
    | some xs =>
      rw [e] at h; cases h
      obtain ⟨p, us, rfl, hs, hl⟩ := items_at r av e
      rcases hs with hs | hs
      · exact .inl ⟨us, hs, hl.1.symm⟩
      · exact .inr ⟨us, hs, hl.1.symm⟩
  cases d with
  | str x =>
    rw [av.str_inv]
    have h : (if x.length ≤ sizeLine then some x.length else none) = some n := h
    by_cases z : x.length ≤ sizeLine
    · rw [if_pos z] at h; cases h; exact ⟨z, rfl⟩
    · rw [if_neg z] at h; cases h
  | _ => exact fin h
/-- int(n), int(flag) -/
def bInt : BF := fun ds μ Φ => (∃ i, ds = [.int i] ∧ Φ (.int i) μ) ∨ ∃ b, ds = [.bl b] ∧ Φ (.int (if b then 1 else 0)) μ
theorem bd_int {K : PySem.W.Frag} : BiD K (fun xs H Q => (∃ i, xs = [V.int i] ∧ Q (.int i) H) ∨ ∃ k, xs = [V.bl k] ∧ Q (.int (if k then 1 else 0)) H) bInt := by
  rintro S H μ F vs ds Φ Q r a (⟨i, rfl, q⟩ | ⟨b, rfl, q⟩) k
  · obtain ⟨v, rfl, av⟩ := atL1 a
    exact .inl ⟨i, by rw [av.int_inv], k S H _ _ μ (Le.refl S) r (.int _) q⟩
  · obtain ⟨v, rfl, av⟩ := atL1 a
    exact .inr ⟨b, by rw [av.bl_inv], k S H _ _ μ (Le.refl S) r (.int _) q⟩
/-- str(text) -/
def bStr : BF := fun ds μ Φ => ∃ x, ds = [.str x] ∧ Φ (.str x) μ
theorem bd_str {K : PySem.W.Frag} : BiD K (fun xs H Q => ∃ a, xs = [V.str a] ∧ Q (.str a) H) bStr := by
  rintro S H μ F vs ds Φ Q r a ⟨x, rfl, q⟩ k
  obtain ⟨v, rfl, av⟩ := atL1 a
  exact ⟨x, by rw [av.str_inv], k S H _ _ μ (Le.refl S) r (.str _) q⟩
/-- list(xs), list(t): a new list -/
def bList : BF := fun ds μ Φ => ∃ d xs, ds = [d] ∧ itemsD μ d = some xs ∧ Φ (.lst xs) μ
def bListM : BF := fun ds μ Φ => ∃ d xs, ds = [d] ∧ itemsD μ d = some xs ∧ ∀ p, μ p = none → Φ (.adr p) (updM μ p (.lst xs))
def rListA (K : PySem.W.Frag) : List V → Hp → VK → Prop := fun xs H Q => ∃ p ys, xs = [V.ref p] ∧ (SqL K H p ys ∨ SqT K H p ys) ∧ ∀ l, H l = none → Q (.ref l) (upd H l (.lst ys))
theorem bd_list {K : PySem.W.Frag} : BiD K (rListA K) bList := by
  rintro S H μ F vs ds Φ Q r a ⟨d, xs, rfl, h, q⟩ k
  obtain ⟨v, rfl, av⟩ := atL1 a
  obtain ⟨p, us, rfl, hs, hl⟩ := items_at r av h
  exact ⟨p, us, rfl, hs, new_lst r hl q k⟩
theorem bd_listM {K : PySem.W.Frag} : BiD K (rListA K) bListM := by
  rintro S H μ F vs ds Φ Q r a ⟨d, xs, rfl, h, q⟩ k
  obtain ⟨v, rfl, av⟩ := atL1 a
  obtain ⟨p, us, rfl, hs, hl⟩ := items_at r av h
  exact ⟨p, us, rfl, hs, new_lstM r hl q k⟩
/-- tuple(xs): a new tuple; tuple(t): t itself -/
def bTuple : BF := fun ds μ Φ => ∃ d xs, ds = [d] ∧ lisD μ d = some xs ∧ Φ (.tup xs) μ
def rTupA (K : PySem.W.Frag) : List V → Hp → VK → Prop := fun xs H Q => ∃ p ys, xs = [V.ref p] ∧ ((SqL K H p ys ∧ ∀ l, H l = none → Q (.ref l) (upd H l (.tup ys))) ∨ (SqT K H p ys ∧ Q (.ref p) H))
theorem bd_tuple {K : PySem.W.Frag} : BiD K (rTupA K) bTuple := by
  rintro S H μ F vs ds Φ Q r a ⟨d, xs, rfl, h, q⟩ k
  obtain ⟨v, rfl, av⟩ := atL1 a
  obtain ⟨p, us, rfl, hs, hl⟩ := lis_at r av h
  exact ⟨p, us, rfl, .inl ⟨hs, new_tup r hl q k⟩⟩
def bTupleT : BF := fun ds μ Φ => ∃ d xs, ds = [d] ∧ tupD d = some xs ∧ Φ d μ
theorem bd_tupleT {K : PySem.W.Frag} : BiD K (rTupA K) bTupleT := by
  rintro S H μ F vs ds Φ Q r a ⟨d, xs, rfl, h, q⟩ k
  obtain ⟨v, rfl, av⟩ := atL1 a
  obtain ⟨p, us, rfl, hs, hl⟩ := tup_at r av h
  exact ⟨p, us, rfl, .inr ⟨hs, k S H _ _ μ (Le.refl S) r av q⟩⟩
/-- sorted(xs), fewer than 64 texts -/
def bSorted : BF := fun ds μ Φ => ∃ d xs, ds = [d] ∧ lisD μ d = some (xs.map D.str) ∧ xs.length < 64 ∧ ∀ ys : List Str, ys.Perm xs → PyProof.Rows.sortedS ys = true → Φ (.lst (ys.map D.str)) μ
theorem bd_sorted {K : PySem.W.Frag} : BiD K (rSortedS K) bSorted := by
  rintro S H μ F vs ds Φ Q r a ⟨d, xs, rfl, h, hz, q⟩ k
  obtain ⟨v, rfl, av⟩ := atL1 a
  obtain ⟨p, us, rfl, hs, hl⟩ := lis_at r av h
  rw [hl.strs] at hs
  exact ⟨p, xs, rfl, hs, hz, fun ys p2 h1 h2 h3 => new_lst r (atL_strs ys) (q ys h1 h2) k p2 h3⟩
/-- all, any of a list of bools -/
def bAll : BF := fun ds μ Φ => ∃ d, ∃ bs : List Bool, ds = [d] ∧ lisD μ d = some (bs.map D.bl) ∧ Φ (.bl (bs.all id)) μ
def bAny : BF := fun ds μ Φ => ∃ d, ∃ bs : List Bool, ds = [d] ∧ lisD μ d = some (bs.map D.bl) ∧ Φ (.bl (bs.any id)) μ
theorem bd_all {K : PySem.W.Frag} : BiD K (rAll K) bAll := by
  rintro S H μ F vs ds Φ Q r a ⟨d, bs, rfl, h, q⟩ k
  obtain ⟨v, rfl, av⟩ := atL1 a
  obtain ⟨p, us, rfl, hs, hl⟩ := lis_at r av h
  rw [hl.bls] at hs
  exact ⟨p, bs, rfl, hs, k S H _ _ μ (Le.refl S) r (.bl _) q⟩
theorem bd_any {K : PySem.W.Frag} : BiD K (rAny K) bAny := by
  rintro S H μ F vs ds Φ Q r a ⟨d, bs, rfl, h, q⟩ k
  obtain ⟨v, rfl, av⟩ := atL1 a
  obtain ⟨p, us, rfl, hs, hl⟩ := lis_at r av h
  rw [hl.bls] at hs
  exact ⟨p, bs, rfl, hs, k S H _ _ μ (Le.refl S) r (.bl _) q⟩
/-- isinstance(o, C), o an instance of the class at B -/
def bIsi (B C : Addr) (b : Bool) : BF := fun ds μ Φ => ∃ d fs, ds = [d, .adr C] ∧ insD μ d = some (B, fs) ∧ Φ (.bl b) μ

/-! ### methods of built-in types -/
abbrev MF := D → List D → Mu → KD → Prop
def MtD (K : PySem.W.Frag) (T : String) (r : V → List V → Hp → VK → Prop) (p : Mu → D → Prop) (w : MF) : Prop := (∀ (S H : Hp) (μ F : Mu) (v : V) (d : D), R K S H μ F → At K S v d → p μ d → tyV K T v H) ∧
  ∀ (S H : Hp) (μ F : Mu) (v : V) (d : D) (vs : List V) (ds : List D) (Φ : KD) (Q : VK), R K S H μ F → At K S v d → AtL K S vs ds → w d ds μ Φ → (∀ S' H' v d' μ', Le S S' → R K S' H' μ' F → At K S' v d' → Φ d' μ' → Q v H') → r v vs H Q
def dBm (p : Mu → D → Prop) (w : MF) (wo : TD) (t : TDA) : TD := fun γ μ Ξ Φ => wo γ μ Ξ fun d μ1 => p μ1 d ∧ t γ μ1 Ξ fun ds μ2 => w d ds μ2 Φ
section
variable {T id : String} {r : V → List V → Hp → VK → Prop} {pp : Mu → D → Prop} {w : MF} {wo : TD} {t : TDA} {o e : Expr} {es : List Expr} {name : Str} {apos cpos : Pos}
theorem e_bm (pa : PlainAttrs T) (slot : Slot T name id) (hty : typeOf (.builtin id) = pure (.type "method_descriptor")) (hm : MtR X id r) (hw : MtD X.K T r pp w) (ho : PE X o (tD X.K W wo)) (ha : PA X (e :: es) (tDA X.K W t))
    (hbase : attributeBase o name X.env (eval o X.env) = eval o X.env := by rfl)
    (hfew : ((backTo cpos (starEach (e :: es) X.env)).all (fun x => !x.1) && (backToKw cpos (keywordEach [] X.env)).all (fun x => x.1.isSome)
      && decide ((e :: es).length + ([] : List Keyword).length + (if ([] : List Keyword).isEmpty then 0 else 1) < 30)) = true := by rfl)
    (hline : (apos.endLine == cpos.line) = true := by rfl) (hs : starEach (e :: es) X.env = (false, eval e X.env) :: starEach es X.env := by rfl) (hplain : (backTo cpos (starEach es X.env)).any (·.1) = false := by rfl) :
    PE X (.Call (.Attribute o name apos) (e :: es) [] cpos) (tD X.K W (dBm pp w wo t)) :=
  pe_imp (pe_bm pa slot hty hm ho ha hbase hfew hline hs hplain) fun σ H Q ⟨S, γ, μ, F, Ξ, Φ, hE, hR, hX, hw', hq⟩ => ⟨S, γ, μ, F, Ξ, _, hE, hR, hX, hw', fun S1 H1 v d μ1 l1 r1 a1 ⟨h1, q1⟩ =>
    ⟨hw.1 S1 H1 μ1 F v d r1 a1 h1, S1, γ, μ1, F, Ξ, _, hE.mono l1, r1, hX.mono l1, q1, fun S2 H2 vs ds μ2 l2 r2 a2 q2 => hw.2 S2 H2 μ2 F v d vs ds _ _ r2 (a1.mono l2) a2 q2 fun S3 H3 v d μ3 l3 r3 a3 q3 => hq S3 H3 v d μ3 (l1.trans (l2.trans l3)) r3 a3 q3⟩⟩
theorem e_bm0 (pa : PlainAttrs T) (slot : Slot T name id) (hty : typeOf (.builtin id) = pure (.type "method_descriptor")) (hm : MtR X id r) (hw : MtD X.K T r pp w) (ho : PE X o (tD X.K W wo))
    (hbase : attributeBase o name X.env (eval o X.env) = eval o X.env := by rfl) (hline : (apos.endLine == cpos.line) = true := by rfl) : PE X (.Call (.Attribute o name apos) [] [] cpos) (tD X.K W (dBm pp w wo dNil)) :=
  pe_imp (pe_bm0 pa slot hty hm ho hbase hline) fun σ H Q ⟨S, γ, μ, F, Ξ, Φ, hE, hR, hX, hw', hq⟩ => ⟨S, γ, μ, F, Ξ, _, hE, hR, hX, hw', fun S1 H1 v d μ1 l1 r1 a1 ⟨h1, q1⟩ =>
    ⟨hw.1 S1 H1 μ1 F v d r1 a1 h1, hw.2 S1 H1 μ1 F v d [] [] _ _ r1 a1 .nil q1 fun S3 H3 v d μ3 l3 r3 a3 q3 => hq S3 H3 v d μ3 (l1.trans l3) r3 a3 q3⟩⟩
end
def isLis : Mu → D → Prop := fun μ d => ∃ xs, lisD μ d = some xs
theorem ty_lis {K : PySem.W.Frag} : ∀ (S H : Hp) (μ F : Mu) (v : V) (d : D), R K S H μ F → At K S v d → isLis μ d → tyV K "list" v H := fun S H μ F v d r a ⟨xs, h⟩ => by
  obtain ⟨p, vs, rfl, hs, _⟩ := lis_at r a h
  exact .inl ⟨rfl, vs, hs⟩
def isStr : Mu → D → Prop := fun _ d => ∃ x, d = .str x
theorem ty_str {K : PySem.W.Frag} : ∀ (S H : Hp) (μ F : Mu) (v : V) (d : D), R K S H μ F → At K S v d → isStr μ d → tyV K "str" v H := fun S H μ F v d r a ⟨x, h⟩ => by
  subst h
  rw [a.str_inv]; rfl
/-- xs.append(e), xs of the store -/
def mAppend : MF := fun d ds μ Φ => ∃ a xs x, d = .adr a ∧ ds = [x] ∧ μ a = some (.lst xs) ∧ xs.length < sizeLine ∧ Φ .non (updM μ a (.lst (xs ++ [x])))
theorem md_append {K : PySem.W.Frag} : MtD K "list" rAppend isLis mAppend := by
  refine ⟨ty_lis, ?_⟩
  rintro S H μ F v d vs ds Φ Q r a al ⟨p, xs, x, rfl, rfl, h, hz, q⟩ k
  obtain ⟨y, rfl, ay⟩ := atL1 al
  obtain ⟨_, o, ho, hm⟩ := r.sto p _ h
  cases o <;> first
    | exact hm.elim
    | exact ⟨p, _, y, a.adr_inv, rfl, ho, by rw [hm.1]; exact hz, k S _ _ _ _ (Le.refl S) (r.write (m := .lst (xs ++ [x])) h (hm.append (.cons ay .nil))) .non q⟩
/-- xs.extend(ys) -/
def mExtend : MF := fun d ds μ Φ => ∃ a xs e ys, d = .adr a ∧ ds = [e] ∧ μ a = some (.lst xs) ∧ lisD μ e = some ys ∧ noFro e = true ∧ xs.length + ys.length ≤ sizeLine ∧ Φ .non (updM μ a (.lst (xs ++ ys)))
theorem md_extend {K : PySem.W.Frag} : MtD K "list" rExtend isLis mExtend := by
  refine ⟨ty_lis, ?_⟩
  rintro S H μ F v d vs ds Φ Q r a al ⟨p, xs, e, ys, rfl, rfl, h, h2, hf, hz, q⟩ k
  obtain ⟨y, rfl, ay⟩ := atL1 al
  obtain ⟨_, o, ho, hm⟩ := r.sto p _ h
  obtain ⟨p2, ws, rfl, hs, hl⟩ := own_at r ay h2 (noFro_ne hf)
  cases o <;> first
    | exact hm.elim
    | exact ⟨p, p2, _, _, a.adr_inv, rfl, ho, hs, by rw [hm.1, hl.1]; exact hz, k S _ _ _ _ (Le.refl S) (r.write (m := .lst (xs ++ ys)) h (hm.append hl)) .non q⟩
/-- sep.join(xs) -/
def mJoin : MF := fun d ds μ Φ => ∃ x e ys, d = .str x ∧ ds = [e] ∧ itemsD μ e = some (ys.map D.str) ∧ (ys.map (·.length)).sum + ys.length * x.length ≤ 16777216 ∧ Φ (.str (Txt.join x ys)) μ
def rJoinA (K : PySem.W.Frag) : V → List V → Hp → VK → Prop := fun x xs H Q => ∃ a p, ∃ ys : List Str, x = .str a ∧ xs = [.ref p] ∧ (SqL K H p (ys.map V.str) ∨ SqT K H p (ys.map V.str)) ∧ (ys.map (·.length)).sum + ys.length * a.length ≤ 16777216 ∧ Q (.str (Txt.join a ys)) H
theorem md_join {K : PySem.W.Frag} : MtD K "str" (rJoinA K) isStr mJoin := by
  refine ⟨ty_str, ?_⟩
  rintro S H μ F v d vs ds Φ Q r a al ⟨x, e, ys, rfl, rfl, h, hz, q⟩ k
  obtain ⟨y, rfl, ay⟩ := atL1 al
  obtain ⟨p, ws, rfl, hs, hl⟩ := items_at r ay h
  rw [hl.strs] at hs
  exact ⟨x, p, ys, a.str_inv, rfl, hs, hz, k S H _ _ μ (Le.refl S) r (.str _) q⟩
end
end DL

/-! # DL6: statements, loops, comprehensions, defs, own operators -/
namespace DL
open PySem L2

section
variable {X : Cx} {W : WX}
/-! ### blocks and small statements -/
def dNext : TDS := fun DD γ μ _ => DD.nx γ μ
def dSeq (t u : TDS) : TDS := fun DD γ μ Ξ => t { DD with nx := fun γ' μ' => u DD γ' μ' Ξ } γ μ Ξ
section
variable {st : Stmt} {rest : List Stmt} {t u : TDS} {e : Expr} {w : TD} {pos : Pos}
theorem ss_nil : PSs X [] (tDS X.K W dNext) := pss_imp pss_nil fun D σ H ⟨S, γ, μ, F, Ξ, DD, hE, hR, hX, hw, hD⟩ => hD.nx S H σ γ μ (Le.refl S) hE hR hw
theorem ss_cons (h1 : PS X st (tDS X.K W t)) (h2 : PSs X rest (tDS X.K W u)) : PSs X (st :: rest) (tDS X.K W (dSeq t u)) :=
  pss_imp (pss_cons h1 h2) fun D σ H ⟨S, γ, μ, F, Ξ, DD, hE, hR, hX, hw, hD⟩ => ⟨S, γ, μ, F, Ξ, _, hE, hR, hX, hw, ⟨fun S1 H1 σ1 γ1 μ1 l1 e1 r1 q1 => ⟨S1, γ1, μ1, F, Ξ, DD, e1, r1, hX.mono l1, q1, hD.mono l1⟩, hD.rt, hD.bk, hD.ct⟩⟩
theorem ss_one (h1 : PS X st (tDS X.K W t)) : PSs X [st] (tDS X.K W t) := pss_one h1
def dBreak : TDS := fun DD γ μ _ => DD.bk γ μ
def dCont : TDS := fun DD γ μ _ => DD.ct γ μ
theorem s_pass : PS X (.Pass pos) (tDS X.K W dNext) := ps_imp ps_pass fun D σ H ⟨S, γ, μ, F, Ξ, DD, hE, hR, hX, hw, hD⟩ => hD.nx S H σ γ μ (Le.refl S) hE hR hw
theorem s_break : PS X (.Break pos) (tDS X.K W dBreak) := ps_imp ps_break fun D σ H ⟨S, γ, μ, F, Ξ, DD, hE, hR, hX, hw, hD⟩ => hD.bk S H σ γ μ (Le.refl S) hE hR hw
theorem s_continue : PS X (.Continue pos) (tDS X.K W dCont) := ps_imp ps_continue fun D σ H ⟨S, γ, μ, F, Ξ, DD, hE, hR, hX, hw, hD⟩ => hD.ct S H σ γ μ (Le.refl S) hE hR hw
theorem s_doc {x j pos pos'} : PS X (.Expr (.Constant (.str x) j pos) pos') (tDS X.K W dNext) := ps_imp ps_doc fun D σ H ⟨S, γ, μ, F, Ξ, DD, hE, hR, hX, hw, hD⟩ => hD.nx S H σ γ μ (Le.refl S) hE hR hw
def dDrop (w : TD) : TDS := fun DD γ μ Ξ => w γ μ Ξ fun _ μ1 => DD.nx γ μ1
theorem s_expr (h : PE X e (tD X.K W w)) (hs : swapsWith e none pos.line X.env = pure false := by rfl) : PS X (.Expr e pos) (tDS X.K W (dDrop w)) :=
  ps_imp (ps_expr h hs) fun D σ H ⟨S, γ, μ, F, Ξ, DD, hE, hR, hX, hw, hD⟩ => ⟨S, γ, μ, F, Ξ, _, hE, hR, hX, hw, fun S1 H1 v d μ1 l1 r1 a1 q1 => hD.nx S1 H1 σ γ μ1 l1 (hE.mono l1) r1 q1⟩
def dRet (w : TD) : TDS := fun DD γ μ Ξ => w γ μ Ξ fun d μ1 => DD.rt d μ1
theorem s_ret (h : PE X e (tD X.K W w)) : PS X (.Return (some e) pos) (tDS X.K W (dRet w)) :=
  ps_imp (ps_ret h) fun D σ H ⟨S, γ, μ, F, Ξ, DD, hE, hR, hX, hw, hD⟩ => ⟨S, γ, μ, F, Ξ, _, hE, hR, hX, hw, fun S1 H1 v d μ1 l1 r1 a1 q1 => hD.rt S1 H1 v d μ1 l1 r1 a1 q1⟩
def dRetN : TDS := fun DD _ μ _ => DD.rt .non μ
theorem s_retN : PS X (.Return none pos) (tDS X.K W dRetN) := ps_imp ps_retN fun D σ H ⟨S, γ, μ, F, Ξ, DD, hE, hR, hX, hw, hD⟩ => hD.rt S H _ _ μ (Le.refl S) hR .non hw
def dIf (c : TDT) (t u : TDS) : TDS := fun DD γ μ Ξ => c γ μ Ξ fun b μ1 => if b = true then t DD γ μ1 Ξ else u DD γ μ1 Ξ
theorem s_if {c : Expr} {a b : List Stmt} {wc : TDT} (hc : PT X c (tDT X.K W wc)) (ha : PSs X a (tDS X.K W t)) (hb : PSs X b (tDS X.K W u)) : PS X (.If c a b pos) (tDS X.K W (dIf wc t u)) :=
  ps_imp (ps_if hc ha hb) fun D σ H ⟨S, γ, μ, F, Ξ, DD, hE, hR, hX, hw, hD⟩ => ⟨S, γ, μ, F, Ξ, _, hE, hR, hX, hw, fun S1 H1 c μ1 l1 r1 q1 => by
    cases c with
    | true => rw [if_pos rfl] at q1 ⊢; exact ⟨S1, γ, μ1, F, Ξ, DD, hE.mono l1, r1, hX.mono l1, q1, hD.mono l1⟩
    | false => rw [if_neg Bool.false_ne_true] at q1 ⊢; exact ⟨S1, γ, μ1, F, Ξ, DD, hE.mono l1, r1, hX.mono l1, q1, hD.mono l1⟩⟩
end
/-! ### targets -/
def gNm (i : Nat) : TDG := fun d γ μ _ Φ => Φ (γ.set i (some d)) μ
theorem g_name (i : Nat) {x : Str} {pos : Pos} (hN : X.N.Nodup) (hi : X.N[i]? = some x := by rfl) (hx : Loc X.env.scope x := by first | exact .inl rfl | exact .inr rfl) (hf : X.fn x = true ∨ X.env.scope.names.lookup x = some .local := by first | exact .inl rfl | exact .inr rfl) : PG X (.Name x pos) (tDG X.K W (gNm i)) :=
  pg_imp (pg_name hN hi hx hf) fun v σ H Q ⟨S, γ, μ, F, Ξ, Φ, d, hE, hR, hX, ha, hw, hq⟩ => hq S H _ _ μ (Le.refl S) (hE.set ha) hR hw
abbrev TDGs := List D → Ga → Mu → XD → (Ga → Mu → Prop) → Prop
def tDGs (K : PySem.W.Frag) (W : WX) (w : TDGs) : TGs := fun vs σ H Q => ∃ S γ μ F Ξ Φ ds, Env K S σ γ ∧ R K S H μ F ∧ XOk K S F W Ξ ∧ AtL K S vs ds ∧ w ds γ μ Ξ Φ ∧ ∀ S' H' σ' γ' μ', Le S S' → Env K S' σ' γ' → R K S' H' μ' F → Φ γ' μ' → Q σ' H'
theorem pgs_imp {e : List Expr} {t t' : TGs} (h : PGs X e t) (i : ∀ v σ H Q, t' v σ H Q → t v σ H Q) : PGs X e t' := ⟨fun p s σ H vs us Q I r q => h.run p s σ H vs us Q I r (i vs σ H Q q)⟩
def gNl : TDGs := fun ds γ μ _ Φ => ds = [] ∧ Φ γ μ
def gCn (t : TDG) (u : TDGs) : TDGs := fun ds γ μ Ξ Φ => ∃ d r, ds = d :: r ∧ t d γ μ Ξ fun γ1 μ1 => u r γ1 μ1 Ξ Φ
theorem gs_nil : PGs X [] (tDGs X.K W gNl) := pgs_imp pgs_nil fun vs σ H Q ⟨S, γ, μ, F, Ξ, Φ, ds, hE, hR, hX, ha, ⟨e, hw⟩, hq⟩ => by
  subst e
  have h0 : vs = [] := List.length_eq_zero_iff.mp ha.1
  exact ⟨h0, hq S H σ γ μ (Le.refl S) hE hR hw⟩
theorem gs_cons {e : Expr} {es : List Expr} {t : TDG} {u : TDGs} (h1 : PG X e (tDG X.K W t)) (h2 : PGs X es (tDGs X.K W u)) (hs : (assignEach (e :: es) X.env).map (·.2) = assign e X.env :: (assignEach es X.env).map (·.2) := by rfl) : PGs X (e :: es) (tDGs X.K W (gCn t u)) :=
  pgs_imp (pgs_cons h1 h2 hs) fun vs σ H Q ⟨S, γ, μ, F, Ξ, Φ, ds, hE, hR, hX, ha, ⟨d, r, e, hw⟩, hq⟩ => by
    subst e
    cases vs with
    | nil => have := ha.1; simp at this
    | cons v vr =>
      exact ⟨v, vr, rfl, S, γ, μ, F, Ξ, _, d, hE, hR, hX, ha.head, hw, fun S1 H1 σ1 γ1 μ1 l1 e1 r1 q1 => ⟨S1, γ1, μ1, F, Ξ, Φ, r, e1, r1, hX.mono l1, ha.tail.mono l1, q1, fun S2 H2 σ2 γ2 μ2 l2 e2 r2 q2 => hq S2 H2 σ2 γ2 μ2 (l1.trans l2) e2 r2 q2⟩⟩
def gTp (n : Nat) (t : TDGs) : TDG := fun d γ μ Ξ Φ => ∃ ds, tupD d = some ds ∧ ds.length = n ∧ t ds γ μ Ξ Φ
theorem g_tup {es : List Expr} {k n : Nat} {pos : Pos} {t : TDGs} (hc : X.calm = true) (h : PGs X es (tDGs X.K W t)) (hn : (assignEach es X.env).length = n := by rfl) (hst : (assignEach es X.env).findIdx? (·.1) = none := by rfl) : PG X (.Tuple es k pos) (tDG X.K W (gTp n t)) :=
  pg_imp (pg_tup hc h hn hst) fun v σ H Q ⟨S, γ, μ, F, Ξ, Φ, d, hE, hR, hX, ha, ⟨ds, h1, h2, hw⟩, hq⟩ => by
    obtain ⟨p, vs, rfl, hs, hl⟩ := tup_at hR ha h1
    exact ⟨p, vs, rfl, hs, by rw [hl.1]; exact h2, S, γ, μ, F, Ξ, Φ, ds, hE, hR, hX, hl, hw, hq⟩
/-- xs[i] = e -/
def gIx (wo wi : TD) : TDG := fun d γ μ Ξ Φ => wo γ μ Ξ fun o μ1 => wi γ μ1 Ξ fun i μ2 => ∃ a xs k j, o = .adr a ∧ i = .int k ∧ μ2 a = some (.lst xs) ∧ ixN xs.length k = some j ∧ Φ γ (updM μ2 a (.lst (xs.set j d)))
theorem g_ix {o i : Expr} {wo wi : TD} {pos : Pos} (ho : PE X o (tD X.K W wo)) (hi : PE X i (tD X.K W wi)) (hs : ∀ v, assign (.Subscript o i pos) X.env v = (do
      let ov ← holding [v] (eval o X.env)
      let iv ← holding [v, ov] (eval i X.env)
      standAt pos
      holding [v, ov, iv] (setItem ov iv v)
      release [v, ov, iv] []) := by intro _; rfl) : PG X (.Subscript o i pos) (tDG X.K W (gIx wo wi)) :=
  pg_imp (pg_sub ho hi set_list hs) fun v σ H Q ⟨S, γ, μ, F, Ξ, Φ, d, hE, hR, hX, ha, hw, hq⟩ => ⟨S, γ, μ, F, Ξ, _, hE, hR, hX, hw, fun S1 H1 ov od μ1 l1 r1 a1 q1 => ⟨S1, γ, μ1, F, Ξ, _, hE.mono l1, r1, hX.mono l1, q1, fun S2 H2 iv id μ2 l2 r2 a2 ⟨a, xs, k, j, e1, e2, h1, h2, q2⟩ => by
    subst e1; subst e2
    obtain ⟨_, o, ho, hm⟩ := r2.sto a _ h1
    cases o <;> first
      | exact hm.elim
      | exact ⟨a, _, k, j, (a1.mono l2).adr_inv, a2.int_inv, ho, by rw [hm.1]; exact h2, hq S2 _ σ γ _ (l1.trans l2) (hE.mono (l1.trans l2)) (r2.write (m := .lst (xs.set j d)) h1 (AtL.set ((ha.mono l1).mono l2) hm)) q2⟩⟩⟩
def dAsg (w : TD) (g : TDG) : TDS := fun DD γ μ Ξ => w γ μ Ξ fun d μ1 => g d γ μ1 Ξ DD.nx
section
variable {e : Expr} {w : TD} {g : TDG} {pos : Pos}
theorem asg_go {σ : L2.St} {H : Hp} {D : Ends} (h : tDS X.K W (dAsg w g) D σ H) : tAsg (tD X.K W w) (tDG X.K W g) D σ H := by
  obtain ⟨S, γ, μ, F, Ξ, DD, hE, hR, hX, hw, hD⟩ := h
  exact ⟨S, γ, μ, F, Ξ, _, hE, hR, hX, hw, fun S1 H1 v d μ1 l1 r1 a1 q1 => ⟨S1, γ, μ1, F, Ξ, DD.nx, d, hE.mono l1, r1, hX.mono l1, a1, q1, fun S2 H2 σ2 γ2 μ2 l2 e2 r2 q2 => hD.nx S2 H2 σ2 γ2 μ2 (l1.trans l2) e2 r2 q2⟩⟩
theorem s_asg {tg : Expr} (he : PE X e (tD X.K W w)) (hg : PG X tg (tDG X.K W g)) (hs : swapsWithSole [tg] e pos.line X.env = pure false := by rfl) (hw : swappedStores [tg] e X.env = pure none := by rfl) (h1 : (assignEach [tg] X.env).map (·.2) = [assign tg X.env] := by rfl) : PS X (.Assign [tg] e pos) (tDS X.K W (dAsg w g)) :=
  ps_imp (ps_asg he hg hs hw h1) fun _ _ _ h => asg_go h
theorem s_set (i : Nat) {x : Str} {pos' : Pos} (hN : X.N.Nodup) (he : PE X e (tD X.K W w)) (hi : X.N[i]? = some x := by rfl) (hx : Loc X.env.scope x := by first | exact .inl rfl | exact .inr rfl) (hs : swapsWith e (some (.Name x pos')) pos.line X.env = pure false := by rfl) (hf : X.fn x = true ∨ X.env.scope.names.lookup x = some .local := by first | exact .inl rfl | exact .inr rfl) :
    PS X (.Assign [.Name x pos'] e pos) (tDS X.K W (dAsg w (gNm i))) :=
  ps_imp (ps_set hN hi hx he hs hf) fun D σ H ⟨S, γ, μ, F, Ξ, DD, hE, hR, hX, hw, hD⟩ => ⟨S, γ, μ, F, Ξ, _, hE, hR, hX, hw, fun S1 H1 v d μ1 l1 r1 a1 q1 => hD.nx S1 H1 _ _ μ1 l1 ((hE.mono l1).set a1) r1 q1⟩
/-- x op= e -/
def dAug (i : Nat) (w : TD) (o : OD) : TDS := fun DD γ μ Ξ => ∃ x, γ[i]? = some (some x) ∧ w γ μ Ξ fun y μ1 => o x y μ1 fun z μ2 => DD.nx (γ.set i (some z)) μ2
theorem s_aug (i : Nat) {x : Str} {op : Operator} {r : R2} {o : OD} {pos' : Pos} (hN : X.N.Nodup) (ho : OpR X (inplaceOp op) r) (hw : OpD X.K r o) (he : PE X e (tD X.K W w)) (hi : X.N[i]? = some x := by rfl) (hx : Loc X.env.scope x := by first | exact .inl rfl | exact .inr rfl) (hf : X.fn x = true ∨ X.env.scope.names.lookup x = some .local := by first | exact .inl rfl | exact .inr rfl) :
    PS X (.AugAssign (.Name x pos') op e pos) (tDS X.K W (dAug i w o)) :=
  ps_imp (ps_aug (ti := r) hN hi hx he (fun pins s σ H x y v u Q I rx ry h => ho pins s σ H x y v u Q I rx ry h) hf) fun D σ H ⟨S, γ, μ, F, Ξ, DD, hE, hR, hX, ⟨d, h1, hw'⟩, hD⟩ => by
    obtain ⟨v, h2, h3⟩ := hE.2 i d h1
    exact ⟨v, h2, S, γ, μ, F, Ξ, _, hE, hR, hX, hw', fun S1 H1 y dy μ1 l1 r1 a1 q1 => hw S1 H1 μ1 F v y d dy _ _ r1 (h3.mono l1) a1 q1 fun S2 H2 z dz μ2 l2 r2 a2 q2 => hD.nx S2 H2 _ _ μ2 (l1.trans l2) ((hE.mono (l1.trans l2)).set a2) r2 q2⟩
theorem od_iaddI {K : PySem.W.Frag} : OpD K (rI0 fun i j => V.int (i + j)) (oI0 fun i j => .int (i + j)) := op_I0 fun _ _ _ => .int _
end

/-! ### what loops walk -/
/-- G: what of the store must stand through the loop -/
def ItOk (K : PySem.W.Frag) (S : Hp) (G : Mu → Prop) (J : It) (ds : List D) : Prop := ∀ (S' H : Hp) (μ F : Mu) (i : Nat), Le S S' → R K S' H μ F → G μ →
  (∀ d, ds[i]? = some d → J.go i H ∧ ∀ x H', J.yld i H x H' → ∃ S'', Le S' S'' ∧ R K S'' H' μ F ∧ At K S'' x d) ∧ (ds[i]? = none → J.stop i H)
abbrev TDI := Ga → Mu → XD → (List D → (Mu → Prop) → Mu → Prop) → Prop
def tDI (K : PySem.W.Frag) (W : WX) (w : TDI) : TI := fun σ H Rr => ∃ S γ μ F Ξ Φ, Env K S σ γ ∧ R K S H μ F ∧ XOk K S F W Ξ ∧ w γ μ Ξ Φ ∧ ∀ S' H' J ds G μ', Le S S' → R K S' H' μ' F → ItOk K S' G J ds → Φ ds G μ' → Rr J H'
theorem pi_imp {tg e : Expr} {t t' : TI} (h : PI X tg e t) (i : ∀ σ H Q, t' σ H Q → t σ H Q) : PI X tg e t' := ⟨fun p s σ H Q I q => h.run p s σ H Q I (i σ H Q q)⟩
/-- a list or a tuple -/
def iSeq (K : PySem.W.Frag) (tl : TE) : TI := fun σ H Rr => tl σ H fun x H1 => ∃ a, x = .ref a ∧ (((∃ xs, SqL K H1 a xs) ∧ Rr (Itl K a) H1) ∨ ((∃ xs, SqT K H1 a xs) ∧ Rr (Itt K a) H1))
theorem pi_seq {tg l : Expr} {tl : TE} (hl : PE X l tl) : PI X tg l (iSeq X.K tl) := by
  refine ⟨fun pins s σ H Rr I h => ?_⟩
  refine thn (hl.run pins s σ H _ I h) fun v s1 ⟨x, H1, I1, r1, a, e, q⟩ => ?_
  subst e
  cases r1
  rcases q with ⟨⟨xs, hq⟩, q⟩ | ⟨⟨xs, hq⟩, q⟩
  · obtain ⟨its, rv, p, hz⟩ := I1.list hq
    refine wpAny_pyIter_list p.isList ?_
    refine ⟨s1.heap.objs.size, [s1.heap.objs.size], _, _, H1, rfl, I1.kept (t' := s1.toks) fun b o e => Heap.get?_push_of_some _ e, turn_list a _, ⟨_, Heap.get?_push_size _ rfl, rfl, rfl⟩, fun b hb => ?_, q⟩
    obtain rfl : b = s1.heap.objs.size := by simpa using hb
    exact I1.fpOk (Nat.le_refl _) (I1.hok.fresh (Nat.le_refl _))
  · obtain ⟨its, rv, p, hz⟩ := I1.tuple hq
    refine wpAny_pyIter_tuple (show s1.heap.IsTuple a its.toArray from p) ?_
    refine ⟨s1.heap.objs.size, [s1.heap.objs.size], _, _, H1, rfl, I1.kept (t' := s1.toks) fun b o e => Heap.get?_push_of_some _ e, turn_tuple a _, ⟨_, Heap.get?_push_size _ rfl, rfl, rfl⟩, fun b hb => ?_, q⟩
    obtain rfl : b = s1.heap.objs.size := by simpa using hb
    exact I1.fpOk (Nat.le_refl _) (I1.hok.fresh (Nat.le_refl _))
/-- the guard of a walk over d: what the store has there -/
def grdD : D → List D → Mu → Prop
  | .adr a, xs => fun μ => μ a = some (.lst xs)
  | _, _ => fun _ => True
def dIt (w : TD) : TDI := fun γ μ Ξ Φ => w γ μ Ξ fun d μ1 => ∃ xs, itemsD μ1 d = some xs ∧ Φ xs (grdD d xs) μ1
theorem itl_ok {K : PySem.W.Frag} {S : Hp} {G : Mu → Prop} {p : Addr} {ds : List D} (h : ∀ (S' H : Hp) (μ F : Mu), Le S S' → R K S' H μ F → G μ → ∃ vs, SqL K H p vs ∧ AtL K S' vs ds) : ItOk K S G (Itl K p) ds := by
  intro S' H μ F i l r g
  obtain ⟨vs, h0, a⟩ := h S' H μ F l r g
  refine ⟨fun d hd => ?_, fun hn => ⟨vs, h0, by rw [a.1]; exact List.getElem?_eq_none_iff.mp hn⟩⟩
  obtain ⟨v, h1, h2⟩ := a.get hd
  refine ⟨⟨vs, v, h0, h1⟩, fun x H' ⟨e, y⟩ => ?_⟩
  subst e
  have q := y vs h0
  rw [h1] at q
  cases q
  exact ⟨S', Le.refl S', r, h2⟩
theorem itt_ok {K : PySem.W.Frag} {S : Hp} {G : Mu → Prop} {p : Addr} {ds : List D} (h : ∀ (S' H : Hp) (μ F : Mu), Le S S' → R K S' H μ F → G μ → ∃ vs, SqT K H p vs ∧ AtL K S' vs ds) : ItOk K S G (Itt K p) ds := by
  intro S' H μ F i l r g
  obtain ⟨vs, h0, a⟩ := h S' H μ F l r g
  refine ⟨fun d hd => ?_, fun hn => ⟨vs, h0, by rw [a.1]; exact List.getElem?_eq_none_iff.mp hn⟩⟩
  obtain ⟨v, h1, h2⟩ := a.get hd
  refine ⟨⟨vs, v, h0, h1⟩, fun x H' ⟨e, y⟩ => ?_⟩
  subst e
  have q := y vs h0
  rw [h1] at q
  cases q
  exact ⟨S', Le.refl S', r, h2⟩
theorem grd_now {μ : Mu} {d : D} {xs : List D} (h : itemsD μ d = some xs) : grdD d xs μ := by
  cases d with
  | adr a => exact lisM_inv (show lisM (μ a) = some xs from h)
  | _ => trivial
theorem items_then {μ μ' : Mu} {d : D} {xs : List D} (h : itemsD μ d = some xs) (g : grdD d xs μ') : itemsD μ' d = some xs := by
  cases d with
  | adr a =>
    have g : μ' a = some (.lst xs) := g
    show lisM (μ' a) = some xs
    rw [g]; rfl
  | _ => exact h
theorem i_seq {tg l : Expr} {w : TD} (hl : PE X l (tD X.K W w)) : PI X tg l (tDI X.K W (dIt w)) :=
  pi_imp (pi_seq hl) fun σ H Rr ⟨S, γ, μ, F, Ξ, Φ, hE, hR, hX, hw, hq⟩ => ⟨S, γ, μ, F, Ξ, _, hE, hR, hX, hw, fun S1 H1 v d μ1 l1 r1 a1 ⟨xs, h1, q1⟩ => by
    have hc : lisD μ1 d = some xs ∨ tupD d = some xs := by
      cases d <;> first | exact .inl h1 | exact .inr h1
    rcases hc with hc | hc
    · obtain ⟨p, vs, rfl, hs, hl⟩ := lis_at r1 a1 hc
      refine ⟨p, rfl, .inl ⟨⟨vs, hs⟩, hq S1 H1 _ xs (grdD d xs) μ1 l1 r1 (itl_ok fun S' H' μ' F' l r g => ?_) q1⟩⟩
      have h2 := items_then h1 g
      have hc2 : lisD μ' d = some xs := by cases d <;> first | exact h2 | cases hc
      obtain ⟨p', vs', e, hs', hl'⟩ := lis_at r (a1.mono l) hc2
      cases e
      exact ⟨vs', hs', hl'⟩
    · obtain ⟨p, vs, rfl, hs, hl⟩ := tup_at r1 a1 hc
      refine ⟨p, rfl, .inr ⟨⟨vs, hs⟩, hq S1 H1 _ xs (grdD d xs) μ1 l1 r1 (itt_ok fun S' H' μ' F' l r g => ?_) q1⟩⟩
      obtain ⟨p', vs', e, hs', hl'⟩ := tup_at r (a1.mono l) hc
      cases e
      exact ⟨vs', hs', hl'⟩⟩
/-- the ints lo, lo + 1, .. , n of them -/
def rngD (lo : Int) (n : Nat) : List D := (List.range n).map fun (i : Nat) => D.int (lo + i)
theorem itr_ok {K : PySem.W.Frag} {S : Hp} {G : Mu → Prop} {lo : Int} {n : Nat} : ItOk K S G (Itr lo n) (rngD lo n) := by
  intro S' H μ F i l r g
  refine ⟨fun d hd => ?_, fun hn => ?_⟩
  · unfold rngD at hd
    rw [List.getElem?_map] at hd
    by_cases hi : i < n
    · rw [List.getElem?_range hi] at hd
      cases hd
      refine ⟨hi, fun x H' ⟨e, y⟩ => ?_⟩
      subst e; subst y
      exact ⟨S', Le.refl S', r, .int _⟩
    · rw [List.getElem?_eq_none (by simpa using Nat.le_of_not_lt hi)] at hd
      cases hd
  · unfold rngD at hn
    have := List.getElem?_eq_none_iff.mp hn
    show n ≤ i
    simpa using this
def dRng1 (t : TDA) : TDI := fun γ μ Ξ Φ => t γ μ Ξ fun ds μ1 => ∃ j : Int, ds = [.int j] ∧ -(2 ^ 62) ≤ j ∧ j < 2 ^ 62 ∧ Φ (rngD 0 j.toNat) (fun _ => True) μ1
theorem i_range1 {tg a : Expr} {t : TDA} {p pos : Pos} (hm : X.mg "range" = none) (ha : PA X [a] (tDA X.K W t)) (hg : Gl X "range" := by rfl) (hs : starEach [a] X.env = [(false, eval a X.env)] := by rfl) : PI X tg (.Call (.Name "range" p) [a] [] pos) (tDI X.K W (dRng1 t)) :=
  pi_imp (pi_range1 hg hm ha hs) fun σ H Rr ⟨S, γ, μ, F, Ξ, Φ, hE, hR, hX, hw, hq⟩ => ⟨S, γ, μ, F, Ξ, _, hE, hR, hX, hw, fun S1 H1 vs ds μ1 l1 r1 a1 ⟨j, e, b1, b2, q1⟩ => by
    subst e
    obtain ⟨v, rfl, av⟩ := atL1 a1
    exact ⟨j, by rw [av.int_inv], b1, b2, hq S1 H1 _ _ _ μ1 l1 r1 itr_ok q1⟩⟩
def dRng2 (t : TDA) : TDI := fun γ μ Ξ Φ => t γ μ Ξ fun ds μ1 => ∃ i j : Int, ds = [.int i, .int j] ∧ (-(2 ^ 62) ≤ i ∧ i < 2 ^ 62 ∧ -(2 ^ 62) ≤ j ∧ j < 2 ^ 62) ∧ Φ (rngD i (j - i).toNat) (fun _ => True) μ1
theorem i_range2 {tg a b : Expr} {t : TDA} {p pos : Pos} (hm : X.mg "range" = none) (ha : PA X [a, b] (tDA X.K W t)) (hg : Gl X "range" := by rfl) (hs : starEach [a, b] X.env = [(false, eval a X.env), (false, eval b X.env)] := by rfl) (hs2 : starEach [b] X.env = [(false, eval b X.env)] := by rfl) : PI X tg (.Call (.Name "range" p) [a, b] [] pos) (tDI X.K W (dRng2 t)) :=
  pi_imp (pi_range2 hg hm ha hs hs2) fun σ H Rr ⟨S, γ, μ, F, Ξ, Φ, hE, hR, hX, hw, hq⟩ => ⟨S, γ, μ, F, Ξ, _, hE, hR, hX, hw, fun S1 H1 vs ds μ1 l1 r1 a1 ⟨i, j, e, b1, q1⟩ => by
    subst e
    obtain ⟨v, u, rfl, av, au⟩ := atL2 a1
    exact ⟨i, j, by rw [av.int_inv, au.int_inv], b1, hq S1 H1 _ _ _ μ1 l1 r1 itr_ok q1⟩⟩

/-! ### for, while -/
def dFor (wi : TDI) (wg : TDG) (wb : TDS) : TDS := fun DD γ μ Ξ => wi γ μ Ξ fun ds G μ1 => ∃ I : Nat → Ga → Mu → Prop, I 0 γ μ1 ∧ (∀ i γ' μ', I i γ' μ' → G μ') ∧
  (∀ i d γ' μ', ds[i]? = some d → I i γ' μ' → wg d γ' μ' Ξ fun γ2 μ2 => wb { nx := I (i + 1), ct := I (i + 1), bk := DD.nx, rt := DD.rt } γ2 μ2 Ξ) ∧ ∀ γ' μ', I ds.length γ' μ' → DD.nx γ' μ'
theorem s_for {tg iter : Expr} {body : List Stmt} {wi : TDI} {wg : TDG} {wb : TDS} {pos : Pos} (hp : PassesOwn (model X.prog X.w) X.A X.env X.xe) (hc : X.calm = true) (hi : PI X tg iter (tDI X.K W wi)) (hg : PG X tg (tDG X.K W wg)) (hb : PSs X body (tDS X.K W wb))
    (hs : ∀ x, foldedSetIterable iter X.env x = pure x := by intro _; rfl) : PS X (.For tg iter body [] pos) (tDS X.K W (dFor wi wg wb)) :=
  ps_imp (ps_for hp hc hi hg hb hs) fun D σ H ⟨S, γ, μ, F, Ξ, DD, hE, hR, hX, hw, hD⟩ => by
    refine ⟨S, γ, μ, F, Ξ, _, hE, hR, hX, hw, fun S1 H1 J ds G μ1 l1 r1 it ⟨I, i0, ig, is, ie⟩ => ?_⟩
    refine ⟨fun i m σ H => m = ds.length - i ∧ i ≤ ds.length ∧ ∃ S' γ' μ', Le S1 S' ∧ Env X.K S' σ γ' ∧ R X.K S' H μ' F ∧ I i γ' μ', ⟨ds.length, by simp, Nat.zero_le _, S1, γ, μ1, Le.refl S1, hE.mono l1, r1, i0⟩, ?_⟩
    rintro i m σ' H' ⟨rfl, hi, S2, γ2, μ2, l2, e2, r2, q2⟩
    have io := it S2 H' μ2 F i l2 r2 (ig i γ2 μ2 q2)
    by_cases hlt : i < ds.length
    · have hd : ds[i]? = some ds[i] := List.getElem?_eq_getElem hlt
      obtain ⟨go, yl⟩ := io.1 _ hd
      refine .inr ⟨go, fun σ' H' => ∃ S' γ' μ', Le S1 S' ∧ Env X.K S' σ' γ' ∧ R X.K S' H' μ' F ∧ I (i + 1) γ' μ', fun σ3 H3 z => ⟨ds.length - (i + 1), by omega, rfl, hlt, z⟩, fun x H3 y => ?_⟩
      obtain ⟨S3, l3, r3, a3⟩ := yl x H3 y
      refine ⟨S3, γ2, μ2, F, Ξ, _, ds[i], e2.mono l3, r3, hX.mono (l1.trans (l2.trans l3)), a3, is i _ γ2 μ2 hd q2, fun S4 H4 σ4 γ4 μ4 l4 e4 r4 q4 => ?_⟩
      refine ⟨S4, γ4, μ4, F, Ξ, _, e4, r4, hX.mono (l1.trans (l2.trans (l3.trans l4))), q4, ⟨fun S5 H5 σ5 γ5 μ5 l5 e5 r5 q5 => ⟨S5, γ5, μ5, l2.trans (l3.trans (l4.trans l5)), e5, r5, q5⟩, fun S5 H5 v d μ5 l5 r5 a5 q5 => hD.rt S5 H5 v d μ5 (l1.trans (l2.trans (l3.trans (l4.trans l5)))) r5 a5 q5,
        fun S5 H5 σ5 γ5 μ5 l5 e5 r5 q5 => hD.nx S5 H5 σ5 γ5 μ5 (l1.trans (l2.trans (l3.trans (l4.trans l5)))) e5 r5 q5, fun S5 H5 σ5 γ5 μ5 l5 e5 r5 q5 => ⟨S5, γ5, μ5, l2.trans (l3.trans (l4.trans l5)), e5, r5, q5⟩⟩⟩
    · have e : i = ds.length := by omega
      subst e
      exact .inl ⟨io.2 (List.getElem?_eq_none (Nat.le_refl _)), hD.nx S2 H' σ' γ2 μ2 (l1.trans l2) e2 r2 (ie γ2 μ2 q2)⟩
def dWhile (t : TDT) (wb : TDS) : TDS := fun DD γ μ Ξ => ∃ I : Nat → Ga → Mu → Prop, (∃ m, I m γ μ) ∧ ∀ m γ' μ', I m γ' μ' → t γ' μ' Ξ fun b μ2 => if b = true then wb { nx := fun γ2 μ3 => ∃ m', m' < m ∧ I m' γ2 μ3, ct := fun γ2 μ3 => ∃ m', m' < m ∧ I m' γ2 μ3, bk := DD.nx, rt := DD.rt } γ' μ2 Ξ else DD.nx γ' μ2
theorem s_while {c : Expr} {body : List Stmt} {t : TDT} {wb : TDS} {pos : Pos} (hp : PassesOwn (model X.prog X.w) X.A X.env X.xe) (hc : PT X c (tDT X.K W t)) (hb : PSs X body (tDS X.K W wb)) : PS X (.While c body [] pos) (tDS X.K W (dWhile t wb)) :=
  ps_imp (ps_while hp hc hb) fun D σ H ⟨S, γ, μ, F, Ξ, DD, hE, hR, hX, ⟨I, ⟨m0, i0⟩, is⟩, hD⟩ => by
    refine ⟨fun m σ H => ∃ S' γ' μ', Le S S' ∧ Env X.K S' σ γ' ∧ R X.K S' H μ' F ∧ I m γ' μ', ⟨m0, S, γ, μ, Le.refl S, hE, hR, i0⟩, ?_⟩
    rintro m σ' H' ⟨S1, γ1, μ1, l1, e1, r1, q1⟩
    refine ⟨S1, γ1, μ1, F, Ξ, _, e1, r1, hX.mono l1, is m γ1 μ1 q1, fun S2 H2 b μ2 l2 r2 q2 => ?_⟩
    cases b with
    | false => rw [if_neg Bool.false_ne_true] at q2 ⊢; exact hD.nx S2 H2 σ' γ1 μ2 (l1.trans l2) (e1.mono l2) r2 q2
    | true =>
      rw [if_pos rfl] at q2 ⊢
      refine ⟨fun σ' H' => ∃ m', m' < m ∧ ∃ S' γ' μ', Le S S' ∧ Env X.K S' σ' γ' ∧ R X.K S' H' μ' F ∧ I m' γ' μ', fun _ _ z => z, ?_⟩
      refine ⟨S2, γ1, μ2, F, Ξ, _, e1.mono l2, r2, hX.mono (l1.trans l2), q2, ⟨fun S5 H5 σ5 γ5 μ5 l5 e5 r5 ⟨m', hm, q5⟩ => ⟨m', hm, S5, γ5, μ5, l1.trans (l2.trans l5), e5, r5, q5⟩, fun S5 H5 v d μ5 l5 r5 a5 q5 => hD.rt S5 H5 v d μ5 (l1.trans (l2.trans l5)) r5 a5 q5,
        fun S5 H5 σ5 γ5 μ5 l5 e5 r5 q5 => hD.nx S5 H5 σ5 γ5 μ5 (l1.trans (l2.trans l5)) e5 r5 q5, fun S5 H5 σ5 γ5 μ5 l5 e5 r5 ⟨m', hm, q5⟩ => ⟨m', hm, S5, γ5, μ5, l1.trans (l2.trans l5), e5, r5, q5⟩⟩⟩
end
end DL

/-! # DL7: comprehensions, defs, own operators -/
namespace DL
open PySem L2

abbrev W0 : WX := fun _ _ _ _ => False
abbrev X0 : XD := fun _ _ _ _ => False
theorem xok0 {K : PySem.W.Frag} {S : Hp} {F : Mu} : XOk K S F W0 X0 := fun _ _ _ _ _ _ _ _ _ _ _ _ h => h
def wipeG (γ : Ga) : List Nat → Ga
  | [] => γ
  | v :: vs => (wipeG γ vs).set v none
theorem env_wipe {K : PySem.W.Frag} {S : Hp} {σ : L2.St} {γ : Ga} (h : Env K S σ γ) : ∀ vs : List Nat, Env K S (wipe σ vs) (wipeG γ vs)
  | [] => h
  | v :: vs => (env_wipe h vs).clear
theorem wipe_get {σ : L2.St} {j : Nat} : ∀ {vs : List Nat}, (wipe σ vs)[j]? = if j ∈ vs ∧ j < σ.length then some none else σ[j]?
  | [] => by simp [wipe]
  | v :: vs => by
    unfold wipe
    rw [List.getElem?_set, wipe_length, wipe_get]
    by_cases h : v = j
    · subst h
      by_cases hl : v < σ.length
      · simp [hl]
      · simp [hl]
    · have h' : ¬ j = v := fun e => h e.symm
      simp [h, h']
theorem wipe_setIn {σ σ' : L2.St} {vs : List Nat} (hl : σ'.length = σ.length) (h : ∀ j, j ∉ vs → σ'[j]? = σ[j]?) : wipe σ' vs = wipe σ vs := by
  refine List.ext_getElem? fun j => ?_
  rw [wipe_get, wipe_get, hl]
  by_cases hj : j ∈ vs
  · by_cases z : j < σ.length
    · rw [if_pos ⟨hj, z⟩, if_pos ⟨hj, z⟩]
    · rw [if_neg (fun q => z q.2), if_neg (fun q => z q.2), List.getElem?_eq_none (by rw [hl]; exact Nat.le_of_not_lt z), List.getElem?_eq_none (Nat.le_of_not_lt z)]
  · rw [if_neg (fun q => hj q.1), if_neg (fun q => hj q.1)]; exact h j hj
/-- a comprehension's target: its names alone are stored -/
abbrev TDC := D → Ga → (Ga → Prop) → Prop
structure CompT (K : PySem.W.Frag) (vs : List Nat) (g : TG) (w : TDC) : Prop where
  go : ∀ (S H : Hp) (μ F : Mu) (σ : L2.St) (γ : Ga) (v : V) (d : D) (Φ : Ga → Prop) (k : L2.St → Hp → Prop), Env K S σ γ → R K S H μ F → At K S v d → w d γ Φ → (∀ σ' γ', Env K S σ' γ' → wipe σ' vs = wipe σ vs → Φ γ' → k σ' H) → g v σ H k
def cNm (i : Nat) : TDC := fun d γ Φ => Φ (γ.set i (some d))
theorem ct_name {K : PySem.W.Frag} (i : Nat) {vs : List Nat} (hi : i ∈ vs := by decide) : CompT K vs (gName i) (cNm i) :=
  ⟨fun S H μ F σ γ v d Φ k hE hR ha hw hk => hk _ _ (hE.set ha) (wipe_setIn (by simp) fun j hj => by rw [List.getElem?_set_ne]; exact fun e => hj (e ▸ hi)) hw⟩
/-- several names -/
def setAll : Ga → List Nat → List D → Ga
  | γ, i :: is, d :: ds => setAll (γ.set i (some d)) is ds
  | γ, _, _ => γ
def gNms : List Nat → TGs
  | [] => L2.gNil
  | i :: is => L2.gCons (gName i) (gNms is)
theorem gnms_go {K : PySem.W.Frag} {S H : Hp} {vs : List Nat} : ∀ {is : List Nat} {us : List V} {ds : List D} {σ : L2.St} {γ : Ga} {k : L2.St → Hp → Prop}, (∀ i ∈ is, i ∈ vs) → us.length = is.length → AtL K S us ds → Env K S σ γ → (∀ σ', Env K S σ' (setAll γ is ds) → wipe σ' vs = wipe σ vs → k σ' H) → gNms is us σ H k
  | [], us, ds, σ, γ, k, _, hl, a, hE, hk => by
    cases us with
    | nil => cases ds with
      | nil => exact ⟨rfl, hk σ hE rfl⟩
      | cons d ds => have := a.1; simp at this
    | cons u us => simp at hl
  | i :: is, us, ds, σ, γ, k, hi, hl, a, hE, hk => by
    cases us with
    | nil => simp at hl
    | cons u us => cases ds with
      | nil => have := a.1; simp at this
      | cons d ds =>
        refine ⟨u, us, rfl, gnms_go (is := is) (fun j hj => hi j (List.mem_cons_of_mem _ hj)) (by simpa using hl) a.tail (hE.set a.head) fun σ' e' w' => hk σ' e' (w'.trans (wipe_setIn (by simp) fun j hj => ?_))⟩
        rw [List.getElem?_set_ne]
        exact fun e => hj (e ▸ hi i List.mem_cons_self)
def cTp (is : List Nat) : TDC := fun d γ Φ => ∃ ds, tupD d = some ds ∧ ds.length = is.length ∧ Φ (setAll γ is ds)
theorem ct_tup {K : PySem.W.Frag} (is : List Nat) {vs : List Nat} (hi : ∀ i ∈ is, i ∈ vs := by decide) : CompT K vs (gTup K is.length (gNms is)) (cTp is) :=
  ⟨fun S H μ F σ γ v d Φ k hE hR ha ⟨ds, h1, h2, hw⟩ hk => by
    obtain ⟨p, us, rfl, hs, hl⟩ := tup_at hR ha h1
    exact ⟨p, us, rfl, hs, by rw [hl.1]; exact h2, gnms_go hi (by rw [hl.1]; exact h2) hl hE fun σ' e' w' => hk σ' _ e' w' hw⟩⟩
section
variable {X : Cx} {W : WX}
def dYes : TDT := fun _ μ _ Φ => Φ true μ
theorem ts_nil : PTs X [] (tDT X.K W dYes) := ⟨fun pins s σ H Q I ⟨S, γ, μ, F, Ξ, Φ, hE, hR, hX, hw, hq⟩ => (pts_nil (X := X)).run pins s σ H Q I (hq S H true μ (Le.refl S) hR hw)⟩
theorem ts_one {c : Expr} {t : TDT} (h : PT X c (tDT X.K W t)) : PTs X [c] (tDT X.K W t) := pts_one h
/-- the turns of a comprehension; I: behind i turns the list holds acc -/
def dLcT (wg : TDC) (wt : TDT) (we : TD) (vs : List Nat) (γ : Ga) (ds : List D) (G : Mu → Prop) (μ1 : Mu) (Φ : List D → Mu → Prop) : Prop := ∃ I : Nat → List D → Mu → Prop, I 0 [] μ1 ∧ (∀ i acc μ', I i acc μ' → G μ') ∧
  (∀ i d acc μ', ds[i]? = some d → I i acc μ' → wg d (wipeG γ vs) fun γ2 => wt γ2 μ' X0 fun b μ3 => if b = true then we γ2 μ3 X0 fun e μ4 => acc.length < sizeLine ∧ I (i + 1) (acc ++ [e]) μ4 else I (i + 1) acc μ3) ∧ ∀ acc μ', I ds.length acc μ' → Φ acc μ'
theorem lst_mat {K : PySem.W.Frag} {S : Hp} {o : HO} {ds : List D} (h : MAt K S o (.lst ds)) : ∃ vs, o = .lst vs ∧ AtL K S vs ds := by
  cases o <;> first | exact h.elim | exact ⟨_, rfl, h⟩
theorem lc_go {K : PySem.W.Frag} {S1 H1 : Hp} {μ1 F : Mu} {J : It} {ds : List D} {G : Mu → Prop} {g : TG} {wg : TDC} {wt : TDT} {we : TD} {vs : List Nat} {σ : L2.St} {γ : Ga} {Dd : Addr} {Φ : List D → Mu → Prop} {Q : Hp → Prop}
    (ct : CompT K vs g wg) (hE : Env K S1 σ γ) (r1 : R K S1 H1 μ1 F) (it : ItOk K S1 G J ds) (hD : H1 Dd = none) (h : dLcT wg wt we vs γ ds G μ1 Φ)
    (fin : ∀ S' H' vs acc μ', Le S1 S' → R K S' H' μ' (updM F Dd (.lst acc)) → H' Dd = some (.lst vs) → AtL K S' vs acc → Φ acc μ' → Q H') :
    ∃ Wn : Nat → Nat → Hp → Prop, (∃ m, Wn 0 m (upd H1 Dd (.lst []))) ∧ ∀ i m H, Wn i m H → (J.stop i H ∧ Q H) ∨ (J.go i H ∧ ∃ Nx : Hp → Prop, (∀ H', Nx H' → ∃ m', m' < m ∧ Wn (i + 1) m' H') ∧ ∀ x H', J.yld i H x H' → g x (wipe σ vs) H' fun σ2 H2 => wipe σ2 vs = wipe σ vs ∧ tDT K W0 wt σ2 H2 fun b H3 =>
      if b = true then tD K W0 we σ2 H3 fun y H4 => ∃ acc, H4 Dd = some (.lst acc) ∧ acc.length < sizeLine ∧ Nx (upd H4 Dd (.lst (acc ++ [y]))) else Nx H3) := by
  obtain ⟨I, i0, ig, is, ie⟩ := h
  refine ⟨fun i m H => m = ds.length - i ∧ i ≤ ds.length ∧ ∃ S' acc μ', Le S1 S' ∧ R K S' H μ' (updM F Dd (.lst acc)) ∧ I i acc μ', ⟨ds.length, by simp, Nat.zero_le _, S1, [], μ1, Le.refl S1, r1.newR hD (m := .lst []) .nil, i0⟩, ?_⟩
  rintro i m H ⟨rfl, hi, S2, acc, μ2, l2, r2, q2⟩
  have io := it S2 H μ2 _ i l2 r2 (ig i acc μ2 q2)
  by_cases hlt : i < ds.length
  · have hd : ds[i]? = some ds[i] := List.getElem?_eq_getElem hlt
    obtain ⟨go, yl⟩ := io.1 _ hd
    refine .inr ⟨go, fun H' => ∃ S' acc μ', Le S1 S' ∧ R K S' H' μ' (updM F Dd (.lst acc)) ∧ I (i + 1) acc μ', fun H3 z => ⟨ds.length - (i + 1), by omega, rfl, hlt, z⟩, fun x H3 y => ?_⟩
    obtain ⟨S3, l3, r3, a3⟩ := yl x H3 y
    have ww : wipe (wipe σ vs) vs = wipe σ vs := wipe_setIn (wipe_length σ vs) fun j hj => by rw [wipe_get, if_neg (fun q => hj q.1)]
    refine ct.go S3 H3 μ2 _ (wipe σ vs) (wipeG γ vs) x ds[i] _ _ (env_wipe (hE.mono (l2.trans l3)) vs) r3 a3 (is i _ acc μ2 hd q2) fun σ' γ' e' w' q' => ⟨w'.trans ww, ?_⟩
    refine ⟨S3, γ', μ2, _, X0, _, e', r3, xok0, q', fun S4 H4 b μ4 l4 r4 q4 => ?_⟩
    cases b with
    | false => rw [if_neg Bool.false_ne_true] at q4 ⊢; exact ⟨S4, acc, μ4, l2.trans (l3.trans l4), r4, q4⟩
    | true =>
      rw [if_pos rfl] at q4 ⊢
      refine ⟨S4, γ', μ4, _, X0, _, e'.mono l4, r4, xok0, q4, fun S5 H5 v d μ5 l5 r5 a5 ⟨hz, q5⟩ => ?_⟩
      obtain ⟨_, _, o, ho, hm⟩ := r5.frm Dd _ updM_same
      obtain ⟨zs, rfl, hm⟩ := lst_mat hm
      have z := r5.writeF (o := .lst (zs ++ [v])) (m := .lst (acc ++ [d])) updM_same (hm.append (.cons a5 .nil))
      rw [updM_updM] at z
      exact ⟨zs, ho, by rw [hm.1]; exact hz, S5, acc ++ [d], μ5, l2.trans (l3.trans (l4.trans l5)), z, q5⟩
  · have e : i = ds.length := by omega
    subst e
    obtain ⟨_, _, o, ho, hm⟩ := r2.frm Dd _ updM_same
    obtain ⟨zs, rfl, hm⟩ := lst_mat hm
    exact .inl ⟨io.2 (List.getElem?_eq_none (Nat.le_refl _)), fin S2 H zs acc μ2 l2 r2 ho hm (ie acc μ2 q2)⟩
def dLc (wi : TDI) (wg : TDC) (wt : TDT) (we : TD) (vs : List Nat) : TD := fun γ μ Ξ Φ => wi γ μ Ξ fun ds G μ1 => dLcT wg wt we vs γ ds G μ1 fun acc μ' => Φ (.lst acc) μ'
def dLcM (wi : TDI) (wg : TDC) (wt : TDT) (we : TD) (vs : List Nat) : TD := fun γ μ Ξ Φ => wi γ μ Ξ fun ds G μ1 => dLcT wg wt we vs γ ds G μ1 fun acc μ' => ∀ p, μ' p = none → Φ (.adr p) (updM μ' p (.lst acc))
theorem lc_end {K : PySem.W.Frag} {S H : Hp} {μ F : Mu} {p : Addr} {vs : List V} {acc : List D} (hF : F p = none) (r : R K S H μ (updM F p (.lst acc))) (h : H p = some (.lst vs)) (a : AtL K S vs acc) : ∃ S', Le S S' ∧ R K S' H μ F ∧ At K S' (.ref p) (.lst acc) := by
  obtain ⟨h1, h2, _⟩ := r.frm p _ updM_same
  have z := r.freezeF h h2 h1
  rw [delM_updM hF] at z
  exact ⟨_, Le.new h2, z, atL_lst upd_same (a.mono (Le.new h2))⟩
theorem R.toM {K : PySem.W.Frag} {S H : Hp} {μ F : Mu} {p : Addr} {m : MO} (hF : F p = none) (r : R K S H μ (updM F p m)) : R K S H (updM μ p m) F := by
  obtain ⟨h1, h2, o, h3, h4⟩ := r.frm p m updM_same
  refine ⟨r.imm, fun a m' e => ?_, fun a m' e => ?_⟩
  · by_cases ha : a = p
    · subst ha; rw [updM_same] at e; cases e; exact ⟨h2, o, h3, h4⟩
    · rw [updM_ne ha] at e; exact r.sto a m' e
  · have ha : a ≠ p := fun z => by subst z; rw [hF] at e; cases e
    obtain ⟨q1, q2⟩ := r.frm a m' (by rw [updM_ne ha]; exact e)
    exact ⟨by rw [updM_ne ha]; exact q1, q2⟩
section
variable {elt tg iter : Expr} {ifs : List Expr} {scope : Scope} {own : List (Str × Nat)} {pos : Pos} {wi : TDI} {g : TG} {wg : TDC} {wt : TDT} {we : TD}
theorem lc_read {Wx : WX} {σ : L2.St} {H : Hp} {Q : VK} {vs : List Nat} (ct : CompT X.K vs g wg) (h : tD X.K Wx (dLc wi wg wt we vs) σ H Q) : tLc (tDI X.K Wx wi) g (tDT X.K W0 wt) (tD X.K W0 we) vs σ H Q := by
  obtain ⟨S, γ, μ, F, Ξ, Φ, hE, hR, hX, hw, hq⟩ := h
  refine ⟨S, γ, μ, F, Ξ, _, hE, hR, hX, hw, fun S1 H1 J ds G μ1 l1 r1 it q1 => fun Dd hD => ?_⟩
  refine lc_go ct (hE.mono l1) r1 it hD q1 fun S2 H2 vs acc μ2 l2 r2 h2 a2 q2 => ?_
  obtain ⟨S3, l3, r3, a3⟩ := lc_end (r1.freeF hD) r2 h2 a2
  exact hq S3 H2 _ _ μ2 (l1.trans (l2.trans l3)) r3 a3 q2
theorem lc_readM {Wx : WX} {σ : L2.St} {H : Hp} {Q : VK} {vs : List Nat} (ct : CompT X.K vs g wg) (h : tD X.K Wx (dLcM wi wg wt we vs) σ H Q) : tLc (tDI X.K Wx wi) g (tDT X.K W0 wt) (tD X.K W0 we) vs σ H Q := by
  obtain ⟨S, γ, μ, F, Ξ, Φ, hE, hR, hX, hw, hq⟩ := h
  refine ⟨S, γ, μ, F, Ξ, _, hE, hR, hX, hw, fun S1 H1 J ds G μ1 l1 r1 it q1 => fun Dd hD => ?_⟩
  refine lc_go ct (hE.mono l1) r1 it hD q1 fun S2 H2 vs acc μ2 l2 r2 h2 a2 q2 => ?_
  exact hq S2 H2 _ _ _ (l1.trans l2) (r2.toM (r1.freeF hD)) (.adr Dd) (q2 Dd (r2.frm Dd _ updM_same).1)
theorem e_lc (hc : X.calm = true) (hN : X.N.Nodup) (ct : CompT X.K (own.map (·.2)) g wg) (hi : PI X tg iter (tDI X.K W wi)) (ok : BlkOk X.N X.env.scope scope own)
    (hg : ∀ (s : Shared) (H : Hp) (C : Addr) (cl : List (Str × Addr)) (fp : List Addr), PG (X.blk s H scope (compEnvC scope cl C X.env) fp) tg g) (ht : ∀ (s : Shared) (H : Hp) (C : Addr) (cl : List (Str × Addr)) (fp : List Addr), PTs (X.blk s H scope (compEnvC scope cl C X.env) fp) ifs (tDT X.K W0 wt))
    (he : ∀ (s : Shared) (H : Hp) (C : Addr) (cl : List (Str × Addr)) (fp : List Addr), PE (X.blk s H scope (compEnvC scope cl C X.env) fp) elt (tD X.K W0 we)) (hs : ∀ x, foldedSetIterable iter X.env x = pure x := by intro _; rfl) :
    PE X (.ListComp elt [⟨tg, iter, ifs, 0⟩] scope pos) (tD X.K W (dLc wi wg wt we (own.map (·.2)))) :=
  pe_imp (pe_lc hc hN hi ok hg ht he hs) fun _ _ _ h => lc_read ct h
theorem e_lcM (hc : X.calm = true) (hN : X.N.Nodup) (ct : CompT X.K (own.map (·.2)) g wg) (hi : PI X tg iter (tDI X.K W wi)) (ok : BlkOk X.N X.env.scope scope own)
    (hg : ∀ (s : Shared) (H : Hp) (C : Addr) (cl : List (Str × Addr)) (fp : List Addr), PG (X.blk s H scope (compEnvC scope cl C X.env) fp) tg g) (ht : ∀ (s : Shared) (H : Hp) (C : Addr) (cl : List (Str × Addr)) (fp : List Addr), PTs (X.blk s H scope (compEnvC scope cl C X.env) fp) ifs (tDT X.K W0 wt))
    (he : ∀ (s : Shared) (H : Hp) (C : Addr) (cl : List (Str × Addr)) (fp : List Addr), PE (X.blk s H scope (compEnvC scope cl C X.env) fp) elt (tD X.K W0 we)) (hs : ∀ x, foldedSetIterable iter X.env x = pure x := by intro _; rfl) :
    PE X (.ListComp elt [⟨tg, iter, ifs, 0⟩] scope pos) (tD X.K W (dLcM wi wg wt we (own.map (·.2)))) :=
  pe_imp (pe_lc hc hN hi ok hg ht he hs) fun _ _ _ h => lc_readM ct h
/-- y = [..] -/
theorem s_setLc (i : Nat) {y : Str} {py spos : Pos} (hc : X.calm = true) (hN : X.N.Nodup) (ct : CompT X.K (own.map (·.2)) g wg) (hi : PI X tg iter (tDI X.K W wi)) (ok : BlkOk X.N X.env.scope scope own)
    (hg : ∀ (s : Shared) (H : Hp) (C : Addr) (cl : List (Str × Addr)) (fp : List Addr), PG (X.blk s H scope (compEnvC scope cl C X.env) fp) tg g) (ht : ∀ (s : Shared) (H : Hp) (C : Addr) (cl : List (Str × Addr)) (fp : List Addr), PTs (X.blk s H scope (compEnvC scope cl C X.env) fp) ifs (tDT X.K W0 wt))
    (he : ∀ (s : Shared) (H : Hp) (C : Addr) (cl : List (Str × Addr)) (fp : List Addr), PE (X.blk s H scope (compEnvC scope cl C X.env) fp) elt (tD X.K W0 we))
    (hsw : swapsWith (.ListComp elt [⟨tg, iter, ifs, 0⟩] scope pos) (some (.Name y py)) spos.line X.env = pure true := by exact sw_true rfl rfl rfl (by decide +kernel)) (hy : X.N[i]? = some y := by rfl) (hyl : X.env.scope.names.lookup y = some .local := by rfl) (hs : ∀ x, foldedSetIterable iter X.env x = pure x := by intro _; rfl) :
    PS X (.Assign [.Name y py] (.ListComp elt [⟨tg, iter, ifs, 0⟩] scope pos) spos) (tDS X.K W (dAsg (dLc wi wg wt we (own.map (·.2))) (gNm i))) :=
  ps_imp (ps_setLc hc hN hy hyl hsw hi ok hg ht he hs) fun D σ H ⟨S, γ, μ, F, Ξ, DD, hE, hR, hX, hw, hD⟩ => lc_read ct ⟨S, γ, μ, F, Ξ, _, hE, hR, hX, hw, fun S1 H1 v d μ1 l1 r1 a1 q1 => hD.nx S1 H1 _ _ μ1 l1 ((hE.mono l1).set a1) r1 q1⟩
theorem s_setLcM (i : Nat) {y : Str} {py spos : Pos} (hc : X.calm = true) (hN : X.N.Nodup) (ct : CompT X.K (own.map (·.2)) g wg) (hi : PI X tg iter (tDI X.K W wi)) (ok : BlkOk X.N X.env.scope scope own)
    (hg : ∀ (s : Shared) (H : Hp) (C : Addr) (cl : List (Str × Addr)) (fp : List Addr), PG (X.blk s H scope (compEnvC scope cl C X.env) fp) tg g) (ht : ∀ (s : Shared) (H : Hp) (C : Addr) (cl : List (Str × Addr)) (fp : List Addr), PTs (X.blk s H scope (compEnvC scope cl C X.env) fp) ifs (tDT X.K W0 wt))
    (he : ∀ (s : Shared) (H : Hp) (C : Addr) (cl : List (Str × Addr)) (fp : List Addr), PE (X.blk s H scope (compEnvC scope cl C X.env) fp) elt (tD X.K W0 we))
    (hsw : swapsWith (.ListComp elt [⟨tg, iter, ifs, 0⟩] scope pos) (some (.Name y py)) spos.line X.env = pure true := by exact sw_true rfl rfl rfl (by decide +kernel)) (hy : X.N[i]? = some y := by rfl) (hyl : X.env.scope.names.lookup y = some .local := by rfl) (hs : ∀ x, foldedSetIterable iter X.env x = pure x := by intro _; rfl) :
    PS X (.Assign [.Name y py] (.ListComp elt [⟨tg, iter, ifs, 0⟩] scope pos) spos) (tDS X.K W (dAsg (dLcM wi wg wt we (own.map (·.2))) (gNm i))) :=
  ps_imp (ps_setLc hc hN hy hyl hsw hi ok hg ht he hs) fun D σ H ⟨S, γ, μ, F, Ξ, DD, hE, hR, hX, hw, hD⟩ => lc_readM ct ⟨S, γ, μ, F, Ξ, _, hE, hR, hX, hw, fun S1 H1 v d μ1 l1 r1 a1 q1 => hD.nx S1 H1 _ _ μ1 l1 ((hE.mono l1).set a1) r1 q1⟩
end
end

/-! ### defs -/
def startG (N : List Str) (ds : List D) : Ga := ds.map some ++ List.replicate (N.length - ds.length) none
section
variable {P : Program} {w : World} {K : PySem.W.Frag} {mg : Str → Option Value} {base : Heap}
theorem eok_def {S : Hp} {F : Mu} {Q : VK} {Φ : KD} (h : ∀ S' H' v d μ', Le S S' → R K S' H' μ' F → At K S' v d → Φ d μ' → Q v H') : EOk K S F { nx := fun _ μ' => Φ .non μ', rt := Φ } { nx := fun _ H' => Q .non H', rt := Q } :=
  ⟨fun S' H' σ γ μ l e r q => h S' H' .non .non μ l r .non q, h, fun _ _ _ _ _ _ _ _ z => z, fun _ _ _ _ _ _ _ _ z => z⟩
theorem fnR_of {k : Nat} {f : Addr} {fd : FuncData} {ps : List Str} {sp : Sp} (G : FnOk P w K mg base (L2.CX P w) k f fd ps sp) (hb : Binds K fd ps []) : FnR P w K mg base (L2.CX P w) k f sp := fun A outer s H us vs Q E hr e0 r h => by
  have hl : us.length = ps.length := by rw [← r.length]; exact G.len _ _ _ _ h
  have kin : K.In s.heap := e0.mod.kin.keeps fun b o e => (e0.bs b o e).1
  have b := hb s us kin (by rw [List.append_nil]; exact hl)
  rw [List.append_nil] at b
  exact G.run A outer s H ⟨us, []⟩ us vs Q E hr e0 b r h
/-- THE RULE for a def -/
theorem fn_D {x qual : Str} {st : Stmt} {f : Addr} {fd : FuncData} {N ps : List Str} {k : Nat} {t : TF} (G : Fun K x qual st f fd) (hb : Binds K fd ps []) (S : FnScope N ps (defScope st)) (hl : ∀ ds μ Ξ Φ, t ds μ Ξ Φ → ds.length = ps.length)
    (hbody : ∀ (cdv : Value) (A : Around) (outer : List PySem.Env) (s : Shared) (H : Hp) (E : XK), Room k (A.deeper (PyProof.Rows.envOfC qual (defScope st) s.heap.objs.size f cdv)) →
      ∃ WB, PSs (cxOf (L2.CX P w) P w K mg base N qual (defScope st) f cdv A outer s H E) (defBody st) (tDS K (fun cls d _ H => E cls d H) WB) ∧ ∀ ds μ Ξ Φ, t ds μ Ξ Φ → WB { nx := fun _ μ' => Φ .non μ', rt := Φ } (startG N ds) μ (fun _ => Ξ)) : FnD P w K mg base (k + 1) f t := by
  refine fnR_of (ps := ps) (fd := fd) (G.okX S (fun vs H Q E h => ?_) fun cdv A outer s H vs Q E hr h => ?_) hb
  · obtain ⟨S, ds, μ, F, Ξ, Φ, a, r, h, _⟩ := h
    rw [a.1]; exact hl ds μ Ξ Φ h
  · obtain ⟨S, ds, μ, F, Ξ, Φ, a, r, h, hq, hx⟩ := h
    obtain ⟨WB, hp, hw⟩ := hbody cdv A outer s H E hr
    exact ⟨_, hp, S, startG N ds, μ, F, fun _ => Ξ, _, Env.start a N, r, fun S' H' σ γ cls xd fs μ' l e r' x q => hx S' H' cls xd fs μ' l r' x q, hw ds μ Ξ Φ h, eok_def hq⟩
/-- .. with a starred parameter behind the n named ones -/
def wStar (n : Nat) (t : TF) : TF := fun ds μ Ξ Φ => ∃ ws rest, ds = ws ++ rest ∧ ws.length = n ∧ rest.length ≤ sizeLine ∧ t (ws ++ [.tup rest]) μ Ξ Φ
theorem fn_DS {name qual pv : Str} {st : Stmt} {f : Addr} {N ps : List Str} {k : Nat} {t : TF} {oc : Value} {od an : Option Addr} {osl : Array (Option Value)} {kV doc pm cdv ct : Value}
    (lk : K.lookup f = some ⟨oc, od, .func (PySem.W.fnOf name qual (defArgs st) (defBody st) (defScope st) .none kV doc pm an cdv ct), osl⟩) (hcd : PySem.W.codeIn K cdv qual = true) (S : FnScope N (ps ++ [pv]) (defScope st))
    (hb : ∀ us rest : List Value, us.length = ps.length → bindArgs (PySem.W.fnOf name qual (defArgs st) (defBody st) (defScope st) .none kV doc pm an cdv ct) ⟨us ++ rest, []⟩ = (newTuple rest >>= fun t => pure (ps.zip us ++ [(pv, t)])))
    (hbody : ∀ (A : Around) (outer : List PySem.Env) (s : Shared) (H : Hp) (E : XK), Room k (A.deeper (PyProof.Rows.envOfC qual (defScope st) s.heap.objs.size f cdv)) →
      ∃ WB, PSs (cxOf (L2.CX P w) P w K mg base N qual (defScope st) f cdv A outer s H E) (defBody st) (tDS K (fun cls d _ H => E cls d H) WB) ∧ ∀ ds μ Ξ Φ, t ds μ Ξ Φ → WB { nx := fun _ μ' => Φ .non μ', rt := Φ } (startG N ds) μ (fun _ => Ξ)) : FnD P w K mg base (k + 1) f (wStar ps.length t) := by
  refine (StX.fn_star (sp := SpD K t) (k := k) lk hcd S StX.cxUp hb fun A outer s H vs Q E hr h => ?_).imp fun vs H Q E h => ?_
  · obtain ⟨S, ds, μ, F, Ξ, Φ, a, r, h, hq, hx⟩ := h
    obtain ⟨WB, hp, hw⟩ := hbody A outer s H E hr
    exact ⟨_, hp, S, startG N ds, μ, F, fun _ => Ξ, _, Env.start a N, r, fun S' H' σ γ cls xd fs μ' l e r' x q => hx S' H' cls xd fs μ' l r' x q, hw ds μ Ξ Φ h, eok_def hq⟩
  · obtain ⟨S, ds, μ, F, Ξ, Φ, a, r, ⟨ws, rest, rfl, hn, hz, h⟩, hq, hx⟩ := h
    have h1 : vs = vs.take ws.length ++ vs.drop ws.length := (List.take_append_drop _ _).symm
    have a1 : AtL K S (vs.take ws.length) ws := by
      have z := a.cut 0 ws.length
      simpa using z
    have a2 : AtL K S (vs.drop ws.length) rest := by
      have z := a.cut ws.length rest.length
      have e1 : (vs.drop ws.length).take rest.length = vs.drop ws.length := List.take_of_length_le (by rw [List.length_drop, a.1, List.length_append]; omega)
      rw [e1] at z
      simpa using z
    refine ⟨_, _, h1, by rw [a1.1]; exact hn, by rw [a2.1]; exact hz, fun p hp => ?_⟩
    have l := Le.new (o := .tup (vs.drop ws.length)) (r.free hp)
    exact ⟨_, _, μ, F, Ξ, Φ, (a1.mono l).append (.cons (atL_tup upd_same (a2.mono l)) .nil), r.new hp, h, fun S' H' v d μ' l' => hq S' H' v d μ' (l.trans l'), fun S' H' cls xd fs μ' l' => hx S' H' cls xd fs μ' (l.trans l')⟩
theorem FnD.mono {j k : Nat} {f : Addr} {t : TF} (G : FnD P w K mg base j f t) (h : j ≤ k) : FnD P w K mg base k f t := FnR.mono G h
end
end DL

/-! # DL8: own operators at the level of data; isinstance; raise, try -/
namespace DL
open PySem L2

/-- facts of a class of the text -/
structure OwnC (K : PySem.W.Frag) (C : Addr) : Prop where
  cl : Cls K C
  ha : PySem.W.findIn K (.ref C) "__class__" = some (some (.builtin "object.__class__"))
  hn : PySem.W.specialIn K (.builtin "object.__class__") "__get__" = some (some (.builtin "getset_descriptor.__get__"))
  htk : PySem.W.takesIn K (.builtin "object.__class__") = some true
  hm : PySem.W.mroIn K C (.type "object") = some true
abbrev F0 : XF := fun _ _ _ => False
section
variable {X : Cx} {W : WX} {K : PySem.W.Frag} {C : Addr} {w : TF}
theorem insAt_of {S H : Hp} {μ F : Mu} {v : V} {d : D} {fs : List (Str × D)} (r : R K S H μ F) (a : At K S v d) (h : insD μ d = some (C, fs)) : ∃ p, v = .ref p ∧ InsAt H C p := by
  obtain ⟨p, dx, us, e, hp, _⟩ := ins_d r a h
  exact ⟨p, e, dx, us, hp⟩
theorem spd_of {S H : Hp} {μ F : Mu} {vs : List V} {ds : List D} {Φ : KD} {Q : VK} (r : R K S H μ F) (a : AtL K S vs ds) (h : w ds μ F0 Φ) (k : ∀ S' H' v d' μ', Le S S' → R K S' H' μ' F → At K S' v d' → Φ d' μ' → Q v H') : SpD K w vs H Q E0 :=
  ⟨S, ds, μ, F, F0, Φ, a, r, h, k, fun _ _ _ _ _ _ _ _ _ z => z⟩
def oOwnB (C : Addr) (w : TF) : OD := fun x y μ Φ => (∃ fs, insD μ x = some (C, fs)) ∧ (∃ gs, insD μ y = some (C, gs)) ∧ w [x, y] μ F0 Φ
theorem od_ownB : OpD K (rOwnB C (SpD K w)) (oOwnB C w) := by
  intro S H μ F x y d e Φ Q r ax ay ⟨⟨fs, h1⟩, ⟨gs, h2⟩, q⟩ k
  obtain ⟨p, rfl, i1⟩ := insAt_of r ax h1
  obtain ⟨p2, rfl, i2⟩ := insAt_of r ay h2
  exact ⟨p, p2, rfl, rfl, i1, i2, spd_of r (.cons ax (.cons ay .nil)) q k⟩
def oOwnI (C : Addr) (w : TF) : OD := fun x y μ Φ => (∃ fs, insD μ x = some (C, fs)) ∧ w [x, y] μ F0 Φ
theorem od_ownI : OpD K (rOwnI C (SpD K w)) (oOwnI C w) := by
  intro S H μ F x y d e Φ Q r ax ay ⟨⟨fs, h1⟩, q⟩ k
  obtain ⟨p, rfl, i1⟩ := insAt_of r ax h1
  exact ⟨p, rfl, i1, spd_of r (.cons ax (.cons ay .nil)) q k⟩
def oOwnIn (C : Addr) (w : TF) (neg : Bool) : OD := fun y x μ Φ => (∃ fs, insD μ x = some (C, fs)) ∧ w [x, y] μ F0 fun d μ' => ∃ b, d = .bl b ∧ Φ (.bl (if neg then !b else b)) μ'
theorem od_ownIn {neg : Bool} : OpD K (rOwnIn C (SpD K w) neg) (oOwnIn C w neg) := by
  intro S H μ F y x e d Φ Q r ay ax ⟨⟨fs, h1⟩, q⟩ k
  obtain ⟨p, rfl, i1⟩ := insAt_of r ax h1
  exact ⟨p, rfl, i1, spd_of r (.cons ax (.cons ay .nil)) q fun S' H' v d' μ' l r' a ⟨b, e1, q1⟩ => by subst e1; exact ⟨b, a.bl_inv, k S' H' _ _ μ' l r' (.bl _) q1⟩⟩
def bOwnLen (C : Addr) (w : TF) : BF := fun ds μ Φ => ∃ d fs, ds = [d] ∧ insD μ d = some (C, fs) ∧ w [d] μ F0 fun x μ' => ∃ i, x = .int i ∧ 0 ≤ i ∧ i < 2 ^ 63 ∧ Φ x μ'
theorem bd_ownLen : BiD K (rOwnLen C (SpD K w)) (bOwnLen C w) := by
  rintro S H μ F vs ds Φ Q r a ⟨d, fs, rfl, h, q⟩ k
  obtain ⟨v, rfl, av⟩ := atL1 a
  obtain ⟨p, rfl, i1⟩ := insAt_of r av h
  exact ⟨p, rfl, i1, spd_of r (.cons av .nil) q fun S' H' v d' μ' l r' a ⟨i, e1, h0, h1, q1⟩ => by subst e1; exact ⟨i, a.int_inv, h0, h1, k S' H' v _ μ' l r' a q1⟩⟩
/-! ### one-line methods -/
/-- return iter(self.f) -/
def spIterF (K : PySem.W.Frag) (C : Addr) (fn : Str) : Sp := fun vs H Q _ => ∃ a dx fs l xs, vs = [.ref a] ∧ H a = some (.ins C dx fs) ∧ fs.lookup fn = some (.ref l) ∧ SqL K H l xs ∧ ∀ it, H it = none → Q (.ref it) (upd H it (ItO l it 0))
/-- return len(self.f) -/
def spLenF (K : PySem.W.Frag) (C : Addr) (fn : Str) : Sp := fun vs H Q _ => ∃ a dx fs l xs, vs = [.ref a] ∧ H a = some (.ins C dx fs) ∧ fs.lookup fn = some (.ref l) ∧ SqL K H l xs ∧ Q (.int xs.length) H
section
variable {P : Program} {w' : World} {mg : Str → Option Value} {base : Heap} {x qual fn : Str} {st : Stmt} {f : Addr} {fd : FuncData} {p1 p2 p3 p4 p5 : Pos}
theorem fn_iterF (G : Fun K x qual st f fd) (hb : Binds K fd ["self"] []) (S : FnScope ["self"] ["self"] (defScope st)) (cl : Cls K C) (na : NoAttr K C fn) (hi : mg "iter" = none)
    (hs : defBody st = [.Return (some (.Call (.Name "iter" p1) [.Attribute (.Name "self" p2) fn p3] [] p4)) p5] := by rfl) (hg : (defScope st).names.lookup ("iter" : Str) = some NameKind.globalImplicit := by decide +kernel) (hv : (defScope st).names.lookup ("self" : Str) = some NameKind.local := by decide +kernel) :
    FnR P w' K mg base (L2.CX P w') 1 f (spIterF K C fn) := by
  refine fnR_of (G.okX S (fun vs H Q E h => ?_) (fun cdv A outer s H vs Q E hr h => ?_)) hb
  · obtain ⟨a, dx, fs, l, xs, rfl, _⟩ := h
    rfl
  · obtain ⟨a, dx, fs, l, xs, rfl, ha, hl, hsq, hq⟩ := h
    rw [hs]
    refine ⟨_, pss_one (ps_ret (pe_callB call_iterL (by exact hg) hi (by decide +kernel) (pa_cons (pe_fld (pe_var (i := 0) rfl (.inl hv)) (by rfl)) pa_nil))), ?_⟩
    exact ⟨_, rfl, a, C, dx, fs, _, rfl, ha, cl, na, hl, l, xs, rfl, hsq, hq⟩
theorem fn_lenF (G : Fun K x qual st f fd) (hb : Binds K fd ["self"] []) (S : FnScope ["self"] ["self"] (defScope st)) (cl : Cls K C) (na : NoAttr K C fn) (hi : mg "len" = none)
    (hs : defBody st = [.Return (some (.Call (.Name "len" p1) [.Attribute (.Name "self" p2) fn p3] [] p4)) p5] := by rfl) (hg : (defScope st).names.lookup ("len" : Str) = some NameKind.globalImplicit := by decide +kernel) (hv : (defScope st).names.lookup ("self" : Str) = some NameKind.local := by decide +kernel) :
    FnR P w' K mg base (L2.CX P w') 1 f (spLenF K C fn) := by
  refine fnR_of (G.okX S (fun vs H Q E h => ?_) (fun cdv A outer s H vs Q E hr h => ?_)) hb
  · obtain ⟨a, dx, fs, l, xs, rfl, _⟩ := h
    rfl
  · obtain ⟨a, dx, fs, l, xs, rfl, ha, hl, hsq, hq⟩ := h
    rw [hs]
    refine ⟨_, pss_one (ps_ret (pe_callB call_len_seq (by exact hg) hi (by decide +kernel) (pa_cons (pe_fld (pe_var (i := 0) rfl (.inl hv)) (by rfl)) pa_nil))), ?_⟩
    exact ⟨_, rfl, a, C, dx, fs, _, rfl, ha, cl, na, hl, l, xs, rfl, .inl hsq, hq⟩
end
/-- list(o), o's __iter__ being iter(self.fn), its __len__ len(self.fn) -/
def bOwnList (C : Addr) (fn : Str) : BF := fun ds μ Φ => ∃ d fs x xs, ds = [d] ∧ insD μ d = some (C, fs) ∧ fs.lookup fn = some x ∧ lisD μ x = some xs ∧ xs.length < sizeLine ∧ Φ (.lst xs) μ
theorem bd_ownList {fn : Str} : BiD K (rOwnList K C (spIterF K C fn) (spLenF K C fn)) (bOwnList C fn) := by
  rintro S H μ F vs ds Φ Q r a ⟨d, fs, x, xs, rfl, h, hx, hl, hz, hΦ⟩ k
  obtain ⟨v, rfl, av⟩ := atL1 a
  obtain ⟨p, dx, us, rfl, hp, hk, ha⟩ := ins_d r av h
  obtain ⟨u, hu, au⟩ := look_some hk ha hx
  obtain ⟨l, ws, rfl, hs, hl'⟩ := lis_at r au hl
  have sq : ∀ {H' : Hp}, (∀ b o, H b = some o → H' b = some o) → SqL K H' l ws := fun e => hs.elim (fun h => .inl (h.elim (fun h => .inl (e _ _ h)) fun ⟨o, h⟩ => .inr ⟨o, e _ _ h⟩)) .inr
  have k1 : ∀ {q : Addr} {o : HO}, H q = none → ∀ b u, H b = some u → upd H q o b = some u := fun hq b u e => by rw [upd_ne (ne_of_none e hq)]; exact e
  refine ⟨p, l, ws, rfl, ⟨dx, us, hp⟩, hs, by rw [hl'.1]; exact hz, fun q Q' hq hQ => ⟨p, dx, us, l, ws, rfl, k1 hq _ _ hp, hu, sq (k1 hq), hQ⟩, fun q it Q' hq hit hne hQ => ?_, fun q it o hq hit hne => ?_⟩
  · have k2 : ∀ b u, H b = some u → upd (upd H q (.lst [])) it (ItO l it 0) b = some u := fun b u e => by rw [upd_ne (ne_of_none e hit)]; exact k1 hq b u e
    exact ⟨p, dx, us, l, ws, rfl, k2 _ _ hp, hu, sq k2, hQ⟩
  · have r1 := r.new (o := .lst ws) hq
    have hit' : upd H q (.lst ws) it = none := by rw [upd_ne hne]; exact hit
    have l1 := Le.new (o := .lst ws) (r.free hq)
    exact k _ _ _ _ μ l1 (r1.newF (o := o) hit') (atL_lst upd_same (hl'.mono l1)) hΦ
/-- isinstance(o, C), o of the class at B -/
theorem bd_isi {B : Addr} {b : Bool} (oc : OwnC K B) (kt : PySem.W.kitOne K (.ref B) (.ref C) = some b) : BiD K (rIsi K) (bIsi B C b) := by
  rintro S H μ F vs ds Φ Q r a ⟨d, fs, rfl, h, q⟩ k
  obtain ⟨v, u, rfl, av, au⟩ := atL2 a
  obtain ⟨p, dx, us, rfl, hp, _⟩ := ins_d r av h
  exact ⟨_, _, .ref B, .ref C, b, rfl, by rw [au.adr_inv]; exact .own C, .base (.ins hp oc.cl oc.ha oc.hn oc.htk oc.hm), kt, k S H _ _ μ (Le.refl S) r (.bl b) q⟩

/-! ### raise, try .. except X: .. -/
/-- raise X('..'), an own class without an __init__ -/
structure ExcC (K : PySem.W.Frag) (C : Addr) : Prop where
  xP : PySem.W.excIn K C [.type "ValueError", .type "Exception", .type "BaseException", .type "object"] "ValueError.__new__" = true
  kP : PySem.W.keepIn K (.ref C) = true
  bP : PySem.W.subIn K (.ref C) (.type "BaseException") = some true
  tP : PySem.W.typeIn K (.ref C) = some (.type "type")
def dRaise (C : Addr) : TDS := fun _ γ μ Ξ => Ξ γ (.ref C) [] μ
theorem s_raise {x m : Str} {j : Nat} {p p2 pos pos2 : Pos} (hc : X.calm = true) (tk : Takes X W) (gP : X.mg x = some (.ref C)) (T : ExcC X.K C) (hg : Gl X x := by rfl) (hdb : (x == ("__debug__" : Str)) = false := by decide) :
    PS X (.Raise (some (.Call (.Name x p) [.Constant (.str m) j p2] [] pos)) none pos2) (tDS X.K W (dRaise C)) :=
  ps_imp (ps_raise hc tk (pmk_own PySem.F.excBase_ValueError T.xP gP T.kP (raises_own T.bP T.tP) hg hdb)) fun D σ H ⟨S, γ, μ, F, Ξ, DD, hE, hR, hX, hw, hD⟩ => hX S H σ γ _ none [] μ (Le.refl S) hE hR rfl hw
end
end DL

/-! # DL9: mathematics: sorted lists of texts without duplicates -/
namespace DL
open PySem L2
abbrev ltc : List Nat → List Nat → Bool := PySem.Spec.ltCps
theorem lt_tri : ∀ l m : List Nat, ltc l m = false → ltc m l = false → l = m
  | [], [], _, _ => rfl
  | [], b :: m, h, _ => by simp [ltc, PySem.Spec.ltCps] at h
  | a :: l, [], _, h => by simp [ltc, PySem.Spec.ltCps] at h
  | a :: l, b :: m, h1, h2 => by
    simp only [ltc, PySem.Spec.ltCps, Bool.or_eq_false_iff, decide_eq_false_iff_not, Bool.and_eq_false_iff] at h1 h2
    obtain ⟨h1, h3⟩ := h1
    obtain ⟨h2, h4⟩ := h2
    have e : a = b := Nat.le_antisymm (Nat.le_of_not_lt h2) (Nat.le_of_not_lt h1)
    subst e
    simp at h3 h4
    rw [lt_tri l m h3 h4]
theorem lt_tr : ∀ l m k : List Nat, ltc l m = true → ltc m k = true → ltc l k = true
  | [], [], _, h, _ => by simp [ltc, PySem.Spec.ltCps] at h
  | [], b :: m, [], _, h => by simp [ltc, PySem.Spec.ltCps] at h
  | [], b :: m, c :: k, _, _ => by simp [ltc, PySem.Spec.ltCps]
  | a :: l, [], _, h, _ => by simp [ltc, PySem.Spec.ltCps] at h
  | a :: l, b :: m, [], _, h => by simp [ltc, PySem.Spec.ltCps] at h
  | a :: l, b :: m, c :: k, h1, h2 => by
    simp only [ltc, PySem.Spec.ltCps, Bool.or_eq_true, decide_eq_true_eq, Bool.and_eq_true, beq_iff_eq] at h1 h2 ⊢
    rcases h1 with h1 | ⟨rfl, h1⟩
    · rcases h2 with h2 | ⟨rfl, h2⟩
      · exact .inl (Nat.lt_trans h1 h2)
      · exact .inl h1
    · rcases h2 with h2 | ⟨rfl, h2⟩
      · exact .inl h2
      · exact .inr ⟨rfl, lt_tr l m k h1 h2⟩
theorem lt_irr (l : List Nat) : ltc l l = false := by
  induction l with
  | nil => rfl
  | cons a l ih => simp only [ltc, PySem.Spec.ltCps, Bool.or_eq_false_iff, decide_eq_false_iff_not, Bool.and_eq_false_iff]; exact ⟨Nat.lt_irrefl a, .inr ih⟩
def lts (x y : Str) : Prop := ltc x.cps.toList y.cps.toList = true
theorem lts_tri {x y : Str} (h1 : ¬ lts x y) (h2 : ¬ lts y x) : x = y := by
  have e := lt_tri _ _ (Bool.not_eq_true _ ▸ h1) (Bool.not_eq_true _ ▸ h2)
  cases x; cases y
  simp only at e
  congr
  exact Array.toList_inj.mp e
/-- strictly rising -/
def Srt (ys : List Str) : Prop := ys.Pairwise lts
theorem rising_mem : ∀ {ys : List Str} {p : Str}, PyProof.Rows.risingS p ys = true → ∀ y ∈ ys, ¬ lts y p
  | [], _, _, y, hy => by simp at hy
  | x :: r, p, h, y, hy => by
    simp only [PyProof.Rows.risingS, Bool.and_eq_true, Bool.not_eq_true'] at h
    obtain ⟨h1, h2⟩ := h
    have hx : ¬ lts x p := by
      intro z
      have z : PySem.Spec.ltCps x.cps.toList p.cps.toList = true := z
      rw [h1] at z
      cases z
    rcases List.mem_cons.mp hy with rfl | hy
    · exact hx
    · have := rising_mem h2 y hy
      intro z
      by_cases w : lts p x
      · exact this (lt_tr _ _ _ z w)
      · have e := lts_tri w hx
        subst e
        exact this z
theorem rising_srt : ∀ {ys : List Str} {p : Str}, PyProof.Rows.risingS p ys = true → (p :: ys).Nodup → (p :: ys).Pairwise lts
  | [], p, _, _ => by simp
  | x :: r, p, h, nd => by
    have hm := rising_mem h
    simp only [PyProof.Rows.risingS, Bool.and_eq_true] at h
    have nd2 := (List.nodup_cons.mp nd)
    refine List.pairwise_cons.mpr ⟨fun y hy => ?_, rising_srt h.2 nd2.2⟩
    by_cases z : lts p y
    · exact z
    · have e := lts_tri z (hm y hy)
      subst e
      exact (nd2.1 hy).elim
theorem srt_of {ys : List Str} (h : PyProof.Rows.sortedS ys = true) (nd : ys.Nodup) : Srt ys := by
  cases ys with
  | nil => exact List.Pairwise.nil
  | cons x r => exact rising_srt h nd
theorem srt_head {x y : Str} {xs ys : List Str} (h1 : Srt (x :: xs)) (h2 : Srt (y :: ys)) (he : ∀ z, z ∈ x :: xs ↔ z ∈ y :: ys) : x = y := by
  have hx := (he x).mp List.mem_cons_self
  have hy := (he y).mpr List.mem_cons_self
  rcases List.mem_cons.mp hx with e | hx
  · exact e
  · rcases List.mem_cons.mp hy with e | hy
    · exact e.symm
    · have a : lts y x := (List.pairwise_cons.mp h2).1 x hx
      have b : lts x y := (List.pairwise_cons.mp h1).1 y hy
      have c := lt_tr _ _ _ a b
      rw [lt_irr] at c
      cases c
theorem srt_notmem {x : Str} {xs : List Str} (h : Srt (x :: xs)) : x ∉ xs := fun hm => by
  have a : lts x x := (List.pairwise_cons.mp h).1 x hm
  unfold lts at a
  rw [lt_irr] at a
  cases a
theorem srt_one : ∀ {xs ys : List Str}, Srt xs → Srt ys → (∀ z, z ∈ xs ↔ z ∈ ys) → xs = ys
  | [], [], _, _, _ => rfl
  | [], y :: ys, _, _, h => by have := (h y).mpr List.mem_cons_self; simp at this
  | x :: xs, [], _, _, h => by have := (h x).mp List.mem_cons_self; simp at this
  | x :: xs, y :: ys, h1, h2, h => by
    have e := srt_head h1 h2 h
    subst e
    have e2 := srt_one (List.pairwise_cons.mp h1).2 (List.pairwise_cons.mp h2).2 fun z => by
      have q := h z
      simp only [List.mem_cons] at q
      constructor
      · intro hz
        rcases q.mp (.inr hz) with e | hz'
        · subst e; exact (srt_notmem h1 hz).elim
        · exact hz'
      · intro hz
        rcases q.mpr (.inr hz) with e | hz'
        · subst e; exact (srt_notmem h2 hz).elim
        · exact hz'
    rw [e2]
theorem Srt.nodup {xs : List Str} (h : Srt xs) : xs.Nodup := by
  refine List.Pairwise.imp (fun {a b} hab e => ?_) h
  subst e
  unfold lts at hab
  rw [lt_irr] at hab
  cases hab
/-- the kept ones of a walk from the left -/
def ddGo (acc : List Str) : List Str → List Str
  | [] => acc
  | x :: r => ddGo (if x ∈ acc then acc else acc ++ [x]) r
def dd (xs : List Str) : List Str := ddGo [] xs
theorem ddGo_snoc (x : Str) : ∀ (xs acc : List Str), ddGo acc (xs ++ [x]) = if x ∈ ddGo acc xs then ddGo acc xs else ddGo acc xs ++ [x]
  | [], acc => rfl
  | y :: r, acc => ddGo_snoc x r _
theorem dd_snoc (xs : List Str) (x : Str) : dd (xs ++ [x]) = if x ∈ dd xs then dd xs else dd xs ++ [x] := ddGo_snoc x xs []
theorem ddGo_nd : ∀ (xs acc : List Str), acc.Nodup → (ddGo acc xs).Nodup
  | [], _, h => h
  | x :: r, acc, h => by
    unfold ddGo
    refine ddGo_nd r _ ?_
    by_cases z : x ∈ acc
    · rw [if_pos z]; exact h
    · rw [if_neg z]
      rw [List.nodup_append]
      exact ⟨h, by simp, fun a ha b hb e => by simp at hb; subst hb; subst e; exact z ha⟩
theorem ddGo_mem : ∀ (xs acc : List Str) (z : Str), z ∈ ddGo acc xs ↔ z ∈ acc ∨ z ∈ xs
  | [], acc, z => by simp [ddGo]
  | x :: r, acc, z => by
    unfold ddGo
    rw [ddGo_mem r]
    by_cases q : x ∈ acc
    · rw [if_pos q]
      constructor
      · rintro (h | h)
        · exact .inl h
        · exact .inr (List.mem_cons_of_mem _ h)
      · rintro (h | h)
        · exact .inl h
        · rcases List.mem_cons.mp h with e | h
          · subst e; exact .inl q
          · exact .inr h
    · rw [if_neg q]
      simp only [List.mem_append, List.mem_cons, List.not_mem_nil, or_false]
      exact or_assoc
theorem dd_nd (xs : List Str) : (dd xs).Nodup := ddGo_nd xs [] List.nodup_nil
theorem dd_mem (xs : List Str) (z : Str) : z ∈ dd xs ↔ z ∈ xs := by unfold dd; rw [ddGo_mem]; simp
theorem ddGo_len : ∀ (xs acc : List Str), (ddGo acc xs).length ≤ acc.length + xs.length
  | [], acc => by simp [ddGo]
  | x :: r, acc => by
    unfold ddGo
    have := ddGo_len r (if x ∈ acc then acc else acc ++ [x])
    by_cases q : x ∈ acc
    · rw [if_pos q] at this ⊢; simp; omega
    · rw [if_neg q] at this ⊢; simp at this ⊢; omega
theorem dd_len (xs : List Str) : (dd xs).length ≤ xs.length := by have := ddGo_len xs []; simpa [dd] using this
/-- flat lists of texts -/
theorem inD_str (x : Str) (xs : List Str) : inD (.str x) (xs.map D.str) = decide (x ∈ xs) := by
  unfold inD
  show inV (.str x) ((xs.map D.str).filterMap flatD) = _
  induction xs with
  | nil => rfl
  | cons y ys ih =>
    rw [List.map_cons, List.filterMap_cons]
    show inV (.str x) (V.str y :: (ys.map D.str).filterMap flatD) = _
    unfold inV at ih ⊢
    rw [List.any_cons, ih]
    show ((y == x) || _) = _
    by_cases h : x = y
    · subst h; simp
    · have h' : ¬ y = x := fun e => h e.symm
      simp [h, h']
theorem flat_strs (xs : List Str) : (xs.map D.str).all (fun d => (flatD d).isSome) = true := by
  induction xs with
  | nil => rfl
  | cons x xs ih => rw [List.map_cons, List.all_cons, ih]; rfl
theorem toPs_strs (μ : Mu) (xs : List Str) : toPs μ (xs.map D.str) = some (xs.map PyData.str) := by
  induction xs with
  | nil => rfl
  | cons x xs ih => rw [List.map_cons, toPs, ih]; simp [toP]
theorem lay_strs : ∀ xs : List Str, (∀ x ∈ xs, PyData.strOk x = true) → PyData.canLayAll0 (xs.map PyData.str) = true
  | [], _ => by simp [PyData.canLayAll0]
  | x :: xs, h => by
    have h1 := h x List.mem_cons_self
    have h2 := lay_strs xs fun y hy => h y (List.mem_cons_of_mem _ hy)
    simp [PyData.canLayAll0, PyData.canLay0, h1, h2]
theorem depth_strs : ∀ xs : List Str, PyData.depthAll (xs.map PyData.str) = 0
  | [] => by simp [PyData.depthAll]
  | x :: xs => by simp [PyData.depthAll, PyData.depth, depth_strs xs]
theorem shaped_strs (xs : List Str) (h : ∀ x ∈ xs, PyData.strOk x = true) : SeqAt.shaped (.list (xs.map PyData.str)) = true := by
  unfold SeqAt.shaped
  rw [PyData.canLay0, lay_strs xs h, PyData.depth, depth_strs]
  decide
theorem eqvAll_strs : ∀ xs ys : List Str, PyData.eqvAll (xs.map PyData.str) (ys.map PyData.str) = decide (xs = ys)
  | [], [] => by simp [PyData.eqvAll]
  | [], y :: ys => by simp [PyData.eqvAll]
  | x :: xs, [] => by simp [PyData.eqvAll]
  | x :: xs, y :: ys => by
    simp only [List.map_cons, PyData.eqvAll, PyData.eqv, eqvAll_strs xs ys]
    by_cases h : x = y
    · subst h; simp
    · simp [h]
theorem eqv_strs (xs ys : List Str) : PyData.eqv (.list (xs.map PyData.str)) (.list (ys.map PyData.str)) = decide (xs = ys) := by
  rw [PyData.eqv, eqvAll_strs]
end DL

/-! # DL10: the readings step by step -/
namespace DL
open PySem L2
section
variable {γ : Ga} {μ : Mu} {Ξ : XD} {Φ : KD} {Ψ : Bool → Mu → Prop} {Λ : List D → Mu → Prop} {nx bk ct : Ga → Mu → Prop} {rt : KD} {d e : D} {i : Nat}
theorem dSeq_i {t u : TDS} (h : t ⟨fun γ' μ' => u ⟨nx, rt, bk, ct⟩ γ' μ' Ξ, rt, bk, ct⟩ γ μ Ξ) : dSeq t u ⟨nx, rt, bk, ct⟩ γ μ Ξ := h
theorem dNext_i (h : nx γ μ) : dNext ⟨nx, rt, bk, ct⟩ γ μ Ξ := h
theorem dBreak_i (h : bk γ μ) : dBreak ⟨nx, rt, bk, ct⟩ γ μ Ξ := h
theorem dCont_i (h : ct γ μ) : dCont ⟨nx, rt, bk, ct⟩ γ μ Ξ := h
theorem dAsg_i {w : TD} {g : TDG} (h : w γ μ Ξ fun d μ1 => g d γ μ1 Ξ nx) : dAsg w g ⟨nx, rt, bk, ct⟩ γ μ Ξ := h
theorem dDrop_i {w : TD} (h : w γ μ Ξ fun _ μ1 => nx γ μ1) : dDrop w ⟨nx, rt, bk, ct⟩ γ μ Ξ := h
theorem dRet_i {w : TD} (h : w γ μ Ξ fun d μ1 => rt d μ1) : dRet w ⟨nx, rt, bk, ct⟩ γ μ Ξ := h
theorem dRetN_i (h : rt .non μ) : dRetN ⟨nx, rt, bk, ct⟩ γ μ Ξ := h
theorem dIf_i {c : TDT} {t u : TDS} (h : c γ μ Ξ fun b μ1 => if b = true then t ⟨nx, rt, bk, ct⟩ γ μ1 Ξ else u ⟨nx, rt, bk, ct⟩ γ μ1 Ξ) : dIf c t u ⟨nx, rt, bk, ct⟩ γ μ Ξ := h
theorem dRaise_i {C : Addr} (h : Ξ γ (.ref C) [] μ) : dRaise C ⟨nx, rt, bk, ct⟩ γ μ Ξ := h
theorem gNm_i {K' : Ga → Mu → Prop} (h : K' (γ.set i (some d)) μ) : gNm i d γ μ Ξ K' := h
theorem dVar_i (h : γ[i]? = some (some d)) (k : Φ d μ) : dVar i γ μ Ξ Φ := ⟨d, h, k⟩
theorem dC_i (k : Φ d μ) : dC d γ μ Ξ Φ := k
theorem dOp_i {o : OD} {wa wb : TD} (h : wa γ μ Ξ fun x μ1 => wb γ μ1 Ξ fun y μ2 => o x y μ2 Φ) : dOp o wa wb γ μ Ξ Φ := h
theorem dTest_i {w : TD} (h : w γ μ Ξ fun d μ' => ∃ b, d = .bl b ∧ Ψ b μ') : dTest w γ μ Ξ Ψ := h
theorem blEx_i {b : Bool} (h : Ψ b μ) : ∃ b', D.bl b = .bl b' ∧ Ψ b' μ := ⟨b, rfl, h⟩
theorem dAnd_i {t u : TDT} (h : t γ μ Ξ fun b μ1 => if b = true then u γ μ1 Ξ Ψ else Ψ false μ1) : dAnd t u γ μ Ξ Ψ := h
theorem dOr_i {t u : TDT} (h : t γ μ Ξ fun b μ1 => if b = true then Ψ true μ1 else u γ μ1 Ξ Ψ) : dOr t u γ μ Ξ Ψ := h
theorem dNot_i {t : TDT} (h : t γ μ Ξ fun b μ1 => Ψ (!b) μ1) : dNot t γ μ Ξ Ψ := h
theorem dTru_i {w : TD} (h : w γ μ Ξ fun d μ1 => ∃ b, truD μ1 d = some b ∧ Ψ b μ1) : dTru w γ μ Ξ Ψ := h
theorem truBl_i {b : Bool} {P : Bool → Prop} (h : P b) : ∃ b', truD μ (D.bl b) = some b' ∧ P b' := ⟨b, rfl, h⟩
theorem truLst_i {xs : List D} {P : Bool → Prop} (h : P (!xs.isEmpty)) : ∃ b', truD μ (D.lst xs) = some b' ∧ P b' := ⟨_, rfl, h⟩
theorem dAndV_i {wa wb : TD} (h : wa γ μ Ξ fun d μ1 => ∃ c, d = .bl c ∧ if c = true then wb γ μ1 Ξ Φ else Φ (.bl false) μ1) : dAndV wa wb γ μ Ξ Φ := h
theorem dOrV_i {wa wb : TD} (h : wa γ μ Ξ fun d μ1 => ∃ c, d = .bl c ∧ if c = true then Φ (.bl true) μ1 else wb γ μ1 Ξ Φ) : dOrV wa wb γ μ Ξ Φ := h
theorem dNotV_i {wa : TD} (h : wa γ μ Ξ fun d μ1 => ∃ c, d = .bl c ∧ Φ (.bl (!c)) μ1) : dNotV wa γ μ Ξ Φ := h
theorem blEx2_i {b : Bool} {P : Bool → Prop} (h : P b) : ∃ b', D.bl b = .bl b' ∧ P b' := ⟨b, rfl, h⟩
theorem dIfE_i {t : TDT} {wa wb : TD} (h : t γ μ Ξ fun c μ1 => if c = true then wa γ μ1 Ξ Φ else wb γ μ1 Ξ Φ) : dIfE t wa wb γ μ Ξ Φ := h
theorem dNil_i (h : Λ [] μ) : dNil γ μ Ξ Λ := h
theorem dCons_i {w : TD} {t : TDA} (h : w γ μ Ξ fun d μ1 => t γ μ1 Ξ fun ds μ2 => Λ (d :: ds) μ2) : dCons w t γ μ Ξ Λ := h
theorem dCall_i {w : TF} {t : TDA} (h : t γ μ Ξ fun ds μ1 => w ds μ1 (Ξ γ) Φ) : dCall w t γ μ Ξ Φ := h
theorem dBi_i {w : BF} {t : TDA} (h : t γ μ Ξ fun ds μ1 => w ds μ1 Φ) : dBi w t γ μ Ξ Φ := h
theorem dTup_i {t : TDA} (h : t γ μ Ξ fun ds μ1 => ds.length ≤ sizeLine ∧ Φ (.tup ds) μ1) : dTup t γ μ Ξ Φ := h
theorem dLst_i {t : TDA} (h : t γ μ Ξ fun ds μ1 => ds.length ≤ sizeLine ∧ Φ (.lst ds) μ1) : dLst t γ μ Ξ Φ := h
theorem dLstM_i {t : TDA} (h : t γ μ Ξ fun ds μ1 => ds.length ≤ sizeLine ∧ ∀ p, μ1 p = none → Φ (.adr p) (updM μ1 p (.lst ds))) : dLstM t γ μ Ξ Φ := h
theorem dFld_i {C : Addr} {f : Str} {w : TD} (h : w γ μ Ξ fun d μ1 => ∃ fs x, insD μ1 d = some (C, fs) ∧ fs.lookup f = some x ∧ Φ x μ1) : dFld C f w γ μ Ξ Φ := h
theorem dSFld_i {C : Addr} {f : Str} {wo wv : TD} (h : wv γ μ Ξ fun d μ1 => wo γ μ1 Ξ fun o μ2 => ∃ a fs, o = .adr a ∧ μ2 a = some (.ins C fs) ∧ fs.length < 1000 ∧ nx γ (updM μ2 a (.ins C (putD f d fs)))) : dSFld C f wo wv ⟨nx, rt, bk, ct⟩ γ μ Ξ := h
theorem dMeth_i {C : Addr} {m : Str} {w : TF} {wo : TD} {t : TDA} (h : wo γ μ Ξ fun d μ1 => ∃ fs, insD μ1 d = some (C, fs) ∧ fs.lookup m = none ∧ t γ μ1 Ξ fun ds μ2 => w (d :: ds) μ2 (Ξ γ) Φ) : dMeth C m w wo t γ μ Ξ Φ := h
theorem dSl_i {w : TD} {wl wh : TDO} (h : w γ μ Ξ fun d μ1 => wl γ μ1 Ξ fun lo μ2 => wh γ μ2 Ξ fun hi μ3 => ∃ ds, lisD μ3 d = some ds ∧ Φ (.lst (cutD ds lo hi)) μ3) : dSl w wl wh γ μ Ξ Φ := h
theorem dNoPart_i {Q : Option Int → Mu → Prop} (h : Q none μ) : dNoPart γ μ Ξ Q := h
theorem dPart_i {Q : Option Int → Mu → Prop} {w : TD} (h : w γ μ Ξ fun d μ1 => ∃ i, d = .int i ∧ Q (some i) μ1) : dPart w γ μ Ξ Q := h
theorem intEx_i {j : Int} {P : Int → Prop} (h : P j) : ∃ i, D.int j = .int i ∧ P i := ⟨j, rfl, h⟩
theorem dStar_i {w : TD} {t : TDA} (h : w γ μ Ξ fun d μ1 => ∃ xs, itemsD μ1 d = some xs ∧ t γ μ1 Ξ fun ds μ2 => Λ (xs ++ ds) μ2) : dStar w t γ μ Ξ Λ := h
theorem itEx_lst {xs : List D} {P : List D → Prop} (h : P xs) : ∃ ys, itemsD μ (.lst xs) = some ys ∧ P ys := ⟨xs, rfl, h⟩
theorem itEx_tup {xs : List D} {P : List D → Prop} (h : P xs) : ∃ ys, itemsD μ (.tup xs) = some ys ∧ P ys := ⟨xs, rfl, h⟩
theorem itEx_ktup {xs : List D} {P : List D → Prop} (h : P xs) : ∃ ys, itemsD μ (.ktup xs) = some ys ∧ P ys := ⟨xs, rfl, h⟩
theorem itEx_fro {xs : List D} {P : List D → Prop} (h : P xs) : ∃ ys, itemsD μ (.fro xs) = some ys ∧ P ys := ⟨xs, rfl, h⟩
theorem liEx_lst {xs : List D} {P : List D → Prop} (h : P xs) : ∃ ys, lisD μ (.lst xs) = some ys ∧ P ys := ⟨xs, rfl, h⟩
theorem items_adr {a : Addr} {xs : List D} (h : μ a = some (.lst xs)) : itemsD μ (.adr a) = some xs := by show lisM (μ a) = some xs; rw [h]; rfl
theorem lis_adr {a : Addr} {xs : List D} (h : μ a = some (.lst xs)) : lisD μ (.adr a) = some xs := by show lisM (μ a) = some xs; rw [h]; rfl
theorem ins_adr {a C : Addr} {fs : List (Str × D)} (h : μ a = some (.ins C fs)) : insD μ (.adr a) = some (C, fs) := by show insM (μ a) = some (C, fs); rw [h]; rfl
theorem fldIns_i {C : Addr} {f : Str} {fs : List (Str × D)} {x : D} {P : D → Prop} (h : fs.lookup f = some x) (k : P x) : ∃ gs y, insD μ (.ins C fs) = some (C, gs) ∧ gs.lookup f = some y ∧ P y := ⟨fs, x, rfl, h, k⟩
theorem dIt_i {w : TD} {P : List D → (Mu → Prop) → Mu → Prop} (h : w γ μ Ξ fun d μ1 => ∃ xs, itemsD μ1 d = some xs ∧ P xs (grdD d xs) μ1) : dIt w γ μ Ξ P := h
theorem dLc_i {wi : TDI} {wg : TDC} {wt : TDT} {we : TD} {vs : List Nat} (h : wi γ μ Ξ fun ds G μ1 => dLcT wg wt we vs γ ds G μ1 fun acc μ' => Φ (.lst acc) μ') : dLc wi wg wt we vs γ μ Ξ Φ := h
theorem dLcM_i {wi : TDI} {wg : TDC} {wt : TDT} {we : TD} {vs : List Nat} (h : wi γ μ Ξ fun ds G μ1 => dLcT wg wt we vs γ ds G μ1 fun acc μ' => ∀ p, μ' p = none → Φ (.adr p) (updM μ' p (.lst acc))) : dLcM wi wg wt we vs γ μ Ξ Φ := h
theorem dFor_i {wi : TDI} {wg : TDG} {wb : TDS} (h : wi γ μ Ξ fun ds G μ1 => ∃ I : Nat → Ga → Mu → Prop, I 0 γ μ1 ∧ (∀ i γ' μ', I i γ' μ' → G μ') ∧
  (∀ i d γ' μ', ds[i]? = some d → I i γ' μ' → wg d γ' μ' Ξ fun γ2 μ2 => wb ⟨I (i + 1), rt, nx, I (i + 1)⟩ γ2 μ2 Ξ) ∧ ∀ γ' μ', I ds.length γ' μ' → nx γ' μ') : dFor wi wg wb ⟨nx, rt, bk, ct⟩ γ μ Ξ := h
theorem dYes_i (h : Ψ true μ) : dYes γ μ Ξ Ψ := h
theorem cNm_i {P : Ga → Prop} (h : P (γ.set i (some d))) : cNm i d γ P := h
theorem dRng1_i {t : TDA} {P : List D → (Mu → Prop) → Mu → Prop} (h : t γ μ Ξ fun ds μ1 => ∃ j : Int, ds = [.int j] ∧ -(2 ^ 62) ≤ j ∧ j < 2 ^ 62 ∧ P (rngD 0 j.toNat) (fun _ => True) μ1) : dRng1 t γ μ Ξ P := h
theorem dAug_i {w : TD} {o : OD} (h : γ[i]? = some (some d)) (k : w γ μ Ξ fun y μ1 => o d y μ1 fun z μ2 => nx (γ.set i (some z)) μ2) : dAug i w o ⟨nx, rt, bk, ct⟩ γ μ Ξ := ⟨d, h, k⟩
/-! operators -/
theorem oAdd_int {i j : Int} (h : Φ (.int (i + j)) μ) : oAdd (.int i) (.int j) μ Φ := h
theorem oAdd_str {a b : Str} (hz : a.length + b.length ≤ sizeLine) (h : Φ (.str (a ++ b)) μ) : oAdd (.str a) (.str b) μ Φ := ⟨hz, h⟩
theorem oAdd_lst {a b : List D} (hz : a.length + b.length ≤ sizeLine) (h : Φ (.lst (a ++ b)) μ) : oAdd (.lst a) (.lst b) μ Φ := ⟨a, b, rfl, rfl, rfl, rfl, hz, h⟩
theorem oSub_int {i j : Int} (h : Φ (.int (i - j)) μ) : oSub (.int i) (.int j) μ Φ := ⟨i, j, rfl, rfl, h⟩
theorem oMul_int {i j : Int} (c : CMul i j) (h : Φ (.int (i * j)) μ) : oMul (.int i) (.int j) μ Φ := ⟨i, j, rfl, rfl, c, h⟩
theorem oDiv_int {i j : Int} (c : CDiv i j) (h : Φ (.int (i / j)) μ) : oDiv (.int i) (.int j) μ Φ := ⟨i, j, rfl, rfl, c, h⟩
theorem oMod_int {i j : Int} (c : 0 < j) (h : Φ (.int (i % j)) μ) : oMod (.int i) (.int j) μ Φ := ⟨i, j, rfl, rfl, c, h⟩
theorem oPow_int {i j : Int} (c : CPow i j) (h : Φ (.int (i ^ j.toNat)) μ) : oPow (.int i) (.int j) μ Φ := ⟨i, j, rfl, rfl, c, h⟩
theorem oLt_int {i j : Int} (h : Φ (.bl (decide (i < j))) μ) : oLt (.int i) (.int j) μ Φ := ⟨i, j, rfl, rfl, h⟩
theorem oLe_int {i j : Int} (h : Φ (.bl (decide (i ≤ j))) μ) : oLe (.int i) (.int j) μ Φ := ⟨i, j, rfl, rfl, h⟩
theorem oGt_int {i j : Int} (h : Φ (.bl (decide (j < i))) μ) : oGt (.int i) (.int j) μ Φ := ⟨i, j, rfl, rfl, h⟩
theorem oGe_int {i j : Int} (h : Φ (.bl (decide (j ≤ i))) μ) : oGe (.int i) (.int j) μ Φ := ⟨i, j, rfl, rfl, h⟩
theorem oEq_int {i j : Int} (h : Φ (.bl (decide (i = j))) μ) : oEq false (.int i) (.int j) μ Φ := h
theorem oNe_int {i j : Int} (h : Φ (.bl (!decide (i = j))) μ) : oEq true (.int i) (.int j) μ Φ := h
theorem oEq_str {i j : Str} (h : Φ (.bl (decide (i = j))) μ) : oEq false (.str i) (.str j) μ Φ := h
theorem oNe_str {i j : Str} (h : Φ (.bl (!decide (i = j))) μ) : oEq true (.str i) (.str j) μ Φ := h
theorem oEq_bl {i j : Bool} (h : Φ (.bl (decide (i = j))) μ) : oEq false (.bl i) (.bl j) μ Φ := h
theorem oNe_bl {i j : Bool} (h : Φ (.bl (!decide (i = j))) μ) : oEq true (.bl i) (.bl j) μ Φ := h
theorem oEq_strs {xs ys : List Str} (h1 : ∀ x ∈ xs, PyData.strOk x = true) (h2 : ∀ x ∈ ys, PyData.strOk x = true) (h : Φ (.bl (decide (xs = ys))) μ) : oEq false (.lst (xs.map D.str)) (.lst (ys.map D.str)) μ Φ := by
  refine ⟨_, _, show toP μ (.lst (xs.map D.str)) = _ by rw [toP, toPs_strs]; rfl, show toP μ (.lst (ys.map D.str)) = _ by rw [toP, toPs_strs]; rfl, shaped_strs xs h1, shaped_strs ys h2, ?_⟩
  rw [eqv_strs]; exact h
theorem oNe_strs {xs ys : List Str} (h1 : ∀ x ∈ xs, PyData.strOk x = true) (h2 : ∀ x ∈ ys, PyData.strOk x = true) (h : Φ (.bl (!decide (xs = ys))) μ) : oEq true (.lst (xs.map D.str)) (.lst (ys.map D.str)) μ Φ := by
  refine ⟨_, _, show toP μ (.lst (xs.map D.str)) = _ by rw [toP, toPs_strs]; rfl, show toP μ (.lst (ys.map D.str)) = _ by rw [toP, toPs_strs]; rfl, shaped_strs xs h1, shaped_strs ys h2, ?_⟩
  rw [eqv_strs]; exact h
theorem oIn_strs {x : Str} {y : D} {ys : List Str} (hy : itemsD μ y = some (ys.map D.str)) (h : Φ (.bl (decide (x ∈ ys))) μ) : oIn false (.str x) y μ Φ := ⟨_, hy, rfl, flat_strs ys, by rw [inD_str]; exact h⟩
theorem oNotIn_strs {x : Str} {y : D} {ys : List Str} (hy : itemsD μ y = some (ys.map D.str)) (h : Φ (.bl (!decide (x ∈ ys))) μ) : oIn true (.str x) y μ Φ := ⟨_, hy, rfl, flat_strs ys, by rw [inD_str]; exact h⟩
theorem oIx_items {x : D} {xs : List D} {j : Int} (h1 : itemsD μ x = some xs) (h2 : atI xs j = some d) (h : Φ d μ) : oIx x (.int j) μ Φ := by
  cases x <;> first | exact ⟨xs, d, h1, h2, h⟩ | cases h1
theorem oIx_str {z : Str} {j : Int} {c : Nat} (h0 : z.length ≤ sizeLine) (h1 : atI z.cps.toList j = some c) (h : Φ (.str ⟨#[c]⟩) μ) : oIx (.str z) (.int j) μ Φ := ⟨c, h0, h1, h⟩
/-! built-ins -/
theorem bLen_lst {xs : List D} (h : Φ (.int xs.length) μ) : bLen [.lst xs] μ Φ := ⟨_, _, rfl, rfl, h⟩
theorem bLen_tup {xs : List D} (h : Φ (.int xs.length) μ) : bLen [.tup xs] μ Φ := ⟨_, _, rfl, rfl, h⟩
theorem bLen_ktup {xs : List D} (h : Φ (.int xs.length) μ) : bLen [.ktup xs] μ Φ := ⟨_, _, rfl, rfl, h⟩
theorem bLen_fro {xs : List D} (h : Φ (.int xs.length) μ) : bLen [.fro xs] μ Φ := ⟨_, _, rfl, rfl, h⟩
theorem bLen_adr {a : Addr} {xs : List D} (h1 : μ a = some (.lst xs)) (h : Φ (.int xs.length) μ) : bLen [.adr a] μ Φ := ⟨_, _, rfl, by show (itemsD μ (.adr a)).map List.length = _; rw [items_adr h1]; rfl, h⟩
theorem bLen_str {x : Str} (hz : x.length ≤ sizeLine) (h : Φ (.int x.length) μ) : bLen [.str x] μ Φ := ⟨_, _, rfl, by show (if x.length ≤ sizeLine then some x.length else none) = _; rw [if_pos hz], h⟩
theorem bInt_int {j : Int} (h : Φ (.int j) μ) : bInt [.int j] μ Φ := .inl ⟨j, rfl, h⟩
theorem bInt_bl {b : Bool} (h : Φ (.int (if b then 1 else 0)) μ) : bInt [.bl b] μ Φ := .inr ⟨b, rfl, h⟩
theorem bStr_str {x : Str} (h : Φ (.str x) μ) : bStr [.str x] μ Φ := ⟨x, rfl, h⟩
theorem bList_items {x : D} {xs : List D} (h1 : itemsD μ x = some xs) (h : Φ (.lst xs) μ) : bList [x] μ Φ := ⟨x, xs, rfl, h1, h⟩
theorem bListM_items {x : D} {xs : List D} (h1 : itemsD μ x = some xs) (h : ∀ p, μ p = none → Φ (.adr p) (updM μ p (.lst xs))) : bListM [x] μ Φ := ⟨x, xs, rfl, h1, h⟩
theorem bTuple_lis {x : D} {xs : List D} (h1 : lisD μ x = some xs) (h : Φ (.tup xs) μ) : bTuple [x] μ Φ := ⟨x, xs, rfl, h1, h⟩
theorem bAll_bls {bs : List Bool} (h : Φ (.bl (bs.all id)) μ) : bAll [.lst (bs.map D.bl)] μ Φ := ⟨_, bs, rfl, rfl, h⟩
theorem bAny_bls {bs : List Bool} (h : Φ (.bl (bs.any id)) μ) : bAny [.lst (bs.map D.bl)] μ Φ := ⟨_, bs, rfl, rfl, h⟩
theorem bIsi_ins {B C : Addr} {b : Bool} {x : D} {fs : List (Str × D)} (h1 : insD μ x = some (B, fs)) (h : Φ (.bl b) μ) : bIsi B C b [x, .adr C] μ Φ := ⟨x, fs, rfl, h1, h⟩
theorem dBm_i {p : Mu → D → Prop} {w : MF} {wo : TD} {t : TDA} (h : wo γ μ Ξ fun d μ1 => p μ1 d ∧ t γ μ1 Ξ fun ds μ2 => w d ds μ2 Φ) : dBm p w wo t γ μ Ξ Φ := h
theorem mAppend_i {a : Addr} {xs : List D} {x : D} (h1 : μ a = some (.lst xs)) (hz : xs.length < sizeLine) (h : Φ .non (updM μ a (.lst (xs ++ [x])))) : mAppend (.adr a) [x] μ Φ := ⟨a, xs, x, rfl, rfl, h1, hz, h⟩
theorem isLis_adr {a : Addr} {xs : List D} (h1 : μ a = some (.lst xs)) : isLis μ (.adr a) := ⟨xs, lis_adr h1⟩
theorem isStr_i {x : Str} : isStr μ (.str x) := ⟨x, rfl⟩
theorem mJoin_i {x : Str} {y : D} {ys : List Str} (h1 : itemsD μ y = some (ys.map D.str)) (hz : (ys.map (·.length)).sum + ys.length * x.length ≤ 16777216) (h : Φ (.str (Txt.join x ys)) μ) : mJoin (.str x) [y] μ Φ := ⟨x, y, ys, rfl, rfl, h1, hz, h⟩
theorem ite_i {b : Bool} {A B : Prop} (h1 : b = true → A) (h2 : b = false → B) : if b = true then A else B := by
  cases b with
  | true => rw [if_pos rfl]; exact h1 rfl
  | false => rw [if_neg Bool.false_ne_true]; exact h2 rfl
theorem ite_d {p : Prop} [Decidable p] {A B : Prop} (h1 : p → A) (h2 : ¬ p → B) : if decide p = true then A else B := by
  by_cases h : p
  · rw [if_pos (decide_eq_true h)]; exact h1 h
  · rw [if_neg (by rw [decide_eq_false h]; exact Bool.false_ne_true)]; exact h2 h
theorem ite_nd {p : Prop} [Decidable p] {A B : Prop} (h1 : ¬ p → A) (h2 : p → B) : if (!decide p) = true then A else B := by
  by_cases h : p
  · rw [decide_eq_true h]; exact iteF (h2 h)
  · rw [decide_eq_false h]; exact iteT (h1 h)
theorem sz_of {n : Nat} (h : n ≤ 1000000) : n ≤ sizeLine := Nat.le_trans h (by rw [sizeLine_eq]; decide)
theorem sz_lt {n : Nat} (h : n < 1000000) : n < sizeLine := Nat.lt_of_lt_of_le h (by rw [sizeLine_eq]; decide)
/-- the store with a place of it changed -/
theorem upd_at {a b : Addr} {o m : MO} (h : a ≠ b) (hm : μ a = some m) : updM μ b o a = some m := by rw [updM_ne h]; exact hm
end
end DL

/-! # DL11: a def as the top leaves it; the law's end -/
namespace DL
open PySem L2
structure FunE (K : PySem.W.Frag) (x qual : Str) (st : Stmt) (f : Addr) : Prop where
  ex2 : ∃ (oc : Value) (od an : Option Addr) (osl : Array (Option Value)) (kV doc pm cdv ct : Value), K.lookup f = some ⟨oc, od, .func (PySem.W.fnOf x qual (defArgs st) (defBody st) (defScope st) .none kV doc pm an cdv ct), osl⟩ ∧ PySem.W.codeIn K cdv qual = true
  kp : PySem.W.keepIn K (.ref f) = true
theorem FunE.ex {K : PySem.W.Frag} {x qual : Str} {st : Stmt} {f : Addr} (h : FunE K x qual st f) : ∃ fd, Fun K x qual st f fd :=
  let ⟨oc, od, an, osl, kV, doc, pm, cdv, ct, l, c⟩ := h.ex2
  ⟨_, fun_mk l c h.kp⟩
section
variable {P : Program} {w : World} {K : PySem.W.Frag} {mg : Str → Option Value} {base : Heap} {X : Cx} {W : WX}
def dNever : TDS := fun _ _ _ _ => False
theorem s_never {st : Stmt} : PS X st (tDS X.K W dNever) := ps_imp ps_never fun D σ H ⟨S, γ, μ, F, Ξ, DD, hE, hR, hX, hw, hD⟩ => hw
/-- the law's own promise: it gives True -/
def tLaw : TF := fun ds μ _ Φ => ∃ ns : List Int, ns.length ≤ 63 ∧ ds = [.fro (ns.map D.int)] ∧ (∀ a, μ a = none) ∧ ∀ μ', Φ (.bl true) μ'
theorem fn_law {x qual : Str} {st : Stmt} {f : Addr} {fd : FuncData} {N : List Str} {k : Nat} (G : Fun K x qual st f fd) (S : FnScope N ["script"] (defScope st))
    (hbody : ∀ (cdv : Value) (A : Around) (outer : List PySem.Env) (s : Shared) (H : Hp) (E : XK), Room k (A.deeper (PyProof.Rows.envOfC qual (defScope st) s.heap.objs.size f cdv)) →
      ∃ WB, PSs (cxOf (L2.CX P w) P w K mg base N qual (defScope st) f cdv A outer s H E) (defBody st) (tDS K (fun cls d _ H => E cls d H) WB) ∧ ∀ ds μ Ξ Φ, tLaw ds μ Ξ Φ → WB { nx := fun _ μ' => Φ .non μ', rt := Φ } (startG N ds) μ (fun _ => Ξ)) : FnOk P w K mg base (L2.CX P w) (k + 1) f fd ["script"] (SpD K tLaw) := by
  refine G.okX S (fun vs H Q E h => ?_) fun cdv A outer s H vs Q E hr h => ?_
  · obtain ⟨S, ds, μ, F, Ξ, Φ, a, r, ⟨ns, _, rfl, _⟩, _⟩ := h
    exact a.1
  · obtain ⟨S, ds, μ, F, Ξ, Φ, a, r, h, hq, hx⟩ := h
    obtain ⟨WB, hp, hw⟩ := hbody cdv A outer s H E hr
    exact ⟨_, hp, S, startG N ds, μ, F, fun _ => Ξ, _, Env.start a N, r, fun S' H' σ γ cls xd fs μ' l e r' x q => hx S' H' cls xd fs μ' l r' x q, hw ds μ Ξ Φ h, eok_def hq⟩
end
theorem law_in {K : PySem.W.Frag} {H : Hp} {a : Addr} {ns : List Int} (hl : ns.length ≤ 63) (h : SqL K H a (ns.map V.int)) : SpD K tLaw [.ref a] H (fun v _ => v = .bl true) fun _ _ _ => False :=
  ⟨H, [.fro (ns.map D.int)], fun _ => none, fun _ => none, F0, fun d _ => d = .bl true, .cons (.fro h (by simp) (atL_ints ns).2) .nil, ⟨fun _ _ e => .inl e, (by intro _ _ e; cases e), (by intro _ _ e; cases e)⟩, ⟨ns, hl, rfl, fun _ => rfl, fun _ => rfl⟩,
    fun S' H' v d μ' _ _ at_ e => by subst e; exact at_.bl_inv, fun _ _ _ _ _ _ _ _ _ z => z⟩
theorem walk_D {l : PySem.W.OpenLaw} {k : Nat} {q : Program} {loose : List Str} {XP : (Str → Option Value) → Heap → Prop} {YP : World → Heap → Prop} {d : DefRec} {K : Params → PySem.W.Frag} (hn : l.most = some 63) (hdf : d.params.defaults = []) (hr : Room k callerA)
    (hY : ∀ (w : World) (h : Heap), YP w h → (K w.params).In h)
    (F : ∀ (w : World) (mg : Str → Option Value) (fa : Addr) (h : Heap), (K w.params).In h → h.Ns mainGlobals mg → mg d.name = some (.ref fa) →
      ∃ fd : FuncData, (∀ (s : Shared) (u : Value), BindsTo s fd ⟨[u], []⟩ [("script", u)]) ∧ ∀ base : Heap, (K w.params).In base → base.Ns mainGlobals mg → FnOk l.prog w (K w.params) mg base (L2.CX l.prog w) k fa fd ["script"] (SpD (K w.params) tLaw)) :
    PySem.W.WalkO q loose XP YP l.row.toRowW d [] (fun f vs => PySem.call f vs) :=
  L2.walk_of (n := 63) (k := k) (x := "script") (CX := fun w => L2.CX l.prog w) (sp := fun w => SpD (K w.params) tLaw) hn (by rw [sizeLine_eq]; decide) hdf hr hY F (fun w H a ns hl _ hS => law_in hl hS) fun w H s e s' h => by
    obtain ⟨_, _, _, _, _, _, _, _, _, _, _, _, z⟩ := h
    exact z
end DL

/-! # DL12: cuts, places of lists -/
namespace DL
open PySem L2
section
variable {γ : Ga} {μ : Mu} {Ξ : XD} {Φ : KD} {Ψ : Bool → Mu → Prop} {Λ : List D → Mu → Prop} {nx bk ct : Ga → Mu → Prop} {rt : KD} {d e : D} {i : Nat}
/-- a cut: what holds behind the first statement -/
theorem dSeq_to {t u : TDS} (M : Ga → Mu → Prop) (h2 : ∀ γ' μ', M γ' μ' → u ⟨nx, rt, bk, ct⟩ γ' μ' Ξ) (h1 : ∀ U : Ga → Mu → Prop, (∀ γ' μ', M γ' μ' → U γ' μ') → t ⟨U, rt, bk, ct⟩ γ μ Ξ) : dSeq t u ⟨nx, rt, bk, ct⟩ γ μ Ξ := h1 _ h2
theorem dVar_x (h : ∃ d, γ[i]? = some (some d) ∧ Φ d μ) : dVar i γ μ Ξ Φ := h
theorem dAug_x {w : TD} {o : OD} (h : ∃ d, γ[i]? = some (some d) ∧ w γ μ Ξ fun y μ1 => o d y μ1 fun z μ2 => nx (γ.set i (some z)) μ2) : dAug i w o ⟨nx, rt, bk, ct⟩ γ μ Ξ := h
theorem atIn {α : Type} {xs : List α} {j : Nat} {x : α} (h : xs[j]? = some x) : atI xs (j : Int) = some x := by
  have hl := (List.getElem?_eq_some_iff.mp h).1
  unfold atI
  have e : ixN xs.length (j : Int) = some j := by
    unfold ixN
    simp
    omega
  rw [e]; exact h
theorem atI_int {α : Type} {xs : List α} {k : Int} (h0 : 0 ≤ k) (h1 : k < xs.length) : ∃ x, x ∈ xs ∧ xs[k.toNat]? = some x ∧ atI xs k = some x := by
  have hl : k.toNat < xs.length := by omega
  refine ⟨xs[k.toNat], List.getElem_mem hl, List.getElem?_eq_getElem hl, ?_⟩
  have := atIn (List.getElem?_eq_getElem hl)
  rwa [Int.toNat_of_nonneg h0] at this
theorem atI_map {α β : Type} {xs : List α} {f : α → β} {k : Int} (h0 : 0 ≤ k) (h1 : k < xs.length) : ∃ x, x ∈ xs ∧ xs[k.toNat]? = some x ∧ atI (xs.map f) k = some (f x) := by
  obtain ⟨x, hx, hg, _⟩ := atI_int h0 h1
  refine ⟨x, hx, hg, ?_⟩
  have := atIn (xs := xs.map f) (j := k.toNat) (x := f x) (by rw [List.getElem?_map, hg]; rfl)
  rwa [Int.toNat_of_nonneg h0] at this
theorem dFrz_i {w : TD} (h : w γ μ Ξ fun d μ1 => ∃ a x, d = .adr a ∧ frzM (μ1 a) = some x ∧ Φ x (delM μ1 a)) : dFrz w γ μ Ξ Φ := h
theorem frzE_l {a : Addr} {xs : List D} {P : Addr → D → Prop} (h : μ a = some (.lst xs)) (k : P a (.lst xs)) : ∃ a' x, D.adr a = .adr a' ∧ frzM (μ a') = some x ∧ P a' x := ⟨a, _, rfl, by rw [h]; rfl, k⟩
theorem iteNT {A B : Prop} (h : B) : if (!true) = true then A else B := by rw [if_neg (by simp)]; exact h
theorem iteNF {A B : Prop} (h : A) : if (!false) = true then A else B := by rw [if_pos (by simp)]; exact h
theorem gIx_i {wo wi : TD} {K' : Ga → Mu → Prop} (h : wo γ μ Ξ fun o μ1 => wi γ μ1 Ξ fun i μ2 => ∃ a xs k j, o = .adr a ∧ i = .int k ∧ μ2 a = some (.lst xs) ∧ ixN xs.length k = some j ∧ K' γ (updM μ2 a (.lst (xs.set j d)))) : gIx wo wi d γ μ Ξ K' := h
theorem gIxE_i {a : Addr} {xs : List D} {k : Int} (j : Nat) {P : Addr → List D → Int → Nat → Prop} (h1 : μ a = some (.lst xs)) (h2 : ixN xs.length k = some j) (h : P a xs k j) : ∃ a' xs' k' j', D.adr a = .adr a' ∧ D.int k = .int k' ∧ μ a' = some (.lst xs') ∧ ixN xs'.length k' = some j' ∧ P a' xs' k' j' := ⟨a, xs, k, j, rfl, rfl, h1, h2, h⟩
/-! comprehensions -/
theorem cNm_mono {i : Nat} : ∀ (d : D) (γ : Ga) (A B : Ga → Prop), (∀ γ', A γ' → B γ') → cNm i d γ A → cNm i d γ B := fun _ _ _ _ h k => h _ k
theorem cTp_mono {is : List Nat} : ∀ (d : D) (γ : Ga) (A B : Ga → Prop), (∀ γ', A γ' → B γ') → cTp is d γ A → cTp is d γ B := fun _ _ _ _ h ⟨ds, a, b, k⟩ => ⟨ds, a, b, h _ k⟩
theorem dYes_mono : ∀ (γ : Ga) (μ : Mu) (A B : Bool → Mu → Prop), (∀ b μ', A b μ' → B b μ') → dYes γ μ X0 A → dYes γ μ X0 B := fun _ _ _ _ h k => h _ _ k
variable {α : Type} {wg : TDC} {wt : TDT} {we : TD} {vs : List Nat} {ds : List D} {G : Mu → Prop} {Λ' : List D → Mu → Prop}
/-- the store changes within M; each item is f of one of Q -/
theorem lc_map (f : α → D) (Q : α → Prop) (M : Mu → Prop) (hz : ds.length ≤ sizeLine) (h0 : M μ) (hG : ∀ μ', M μ' → G μ')
    (hs : ∀ (i : Nat) (d : D) (μ' : Mu), ds[i]? = some d → M μ' → ∀ U : D → Mu → Prop, (∀ x μ2, Q x → M μ2 → U (f x) μ2) → wg d (wipeG γ vs) fun γ2 => wt γ2 μ' X0 fun b μ3 => if b = true then we γ2 μ3 X0 U else False)
    (he : ∀ ys : List α, ∀ μ', ys.length = ds.length → (∀ y ∈ ys, Q y) → M μ' → Λ' (ys.map f) μ')
    (mg : ∀ d γ (A B : Ga → Prop), (∀ γ', A γ' → B γ') → wg d γ A → wg d γ B := by first | exact cNm_mono | exact cTp_mono)
    (mt : ∀ γ μ (A B : Bool → Mu → Prop), (∀ b μ', A b μ' → B b μ') → wt γ μ X0 A → wt γ μ X0 B := by exact dYes_mono) : dLcT wg wt we vs γ ds G μ Λ' := by
  refine ⟨fun i acc μ' => i ≤ ds.length ∧ ∃ ys : List α, acc = ys.map f ∧ ys.length = i ∧ (∀ y ∈ ys, Q y) ∧ M μ', ⟨Nat.zero_le _, [], rfl, rfl, by simp, h0⟩, fun i acc μ' ⟨_, _, _, _, _, h⟩ => hG μ' h, ?_, ?_⟩
  · rintro i d acc μ' hd ⟨_, ys, rfl, hl, hq, hm⟩
    have hi := (List.getElem?_eq_some_iff.mp hd).1
    refine mg _ _ _ _ (fun γ2 k => mt _ _ _ _ (fun b μ3 k => ?_) k) (hs i d μ' hd hm (fun e μ4 => (ys.map f).length < sizeLine ∧ i + 1 ≤ ds.length ∧ ∃ zs : List α, ys.map f ++ [e] = zs.map f ∧ zs.length = i + 1 ∧ (∀ y ∈ zs, Q y) ∧ M μ4) fun x μ2 hx hm2 => ⟨by rw [List.length_map]; omega, by omega, ys ++ [x], by simp, by simp [hl], fun y hy => ?_, hm2⟩)
    · cases b with
      | true => rw [if_pos rfl] at k ⊢; exact k
      | false => rw [if_neg Bool.false_ne_true] at k; exact k.elim
    · rcases List.mem_append.mp hy with h | h
      · exact hq y h
      · simp at h; subst h; exact hx
  · rintro acc μ' ⟨_, ys, rfl, hl, hq, hm⟩
    exact he ys μ' hl hq hm
/-- the store stays; the kept ones of p -/
theorem lc_filter {xs : List α} (f g : α → D) (p : α → Bool) (hz : xs.length ≤ sizeLine) (hG : G μ)
    (hs : ∀ x, x ∈ xs → ∀ U : Option D → Mu → Prop, U (if p x = true then some (g x) else none) μ → wg (f x) (wipeG γ vs) fun γ2 => wt γ2 μ X0 fun b μ3 => if b = true then we γ2 μ3 X0 fun e => U (some e) else U none μ3)
    (he : Λ' ((xs.filter p).map g) μ) : dLcT wg wt we vs γ (xs.map f) G μ Λ' := by
  have pre : ∀ i : Nat, ((xs.take i).filter p).length ≤ i := fun i => Nat.le_trans (List.length_filter_le ..) (by simp; omega)
  refine ⟨fun i acc μ' => acc = ((xs.take i).filter p).map g ∧ μ' = μ, ⟨by simp, rfl⟩, fun i acc μ' ⟨_, h⟩ => h ▸ hG, ?_, ?_⟩
  · rintro i d acc μ' hd ⟨ha, hm⟩
    subst ha
    subst hm
    rw [List.getElem?_map] at hd
    cases hx : xs[i]? with
    | none => rw [hx] at hd; cases hd
    | some x =>
      rw [hx] at hd
      cases hd
      have hi := (List.getElem?_eq_some_iff.mp hx).1
      have e1 : xs.take (i + 1) = xs.take i ++ [x] := by rw [List.take_succ, hx]; rfl
      have hq := hs x (List.mem_of_getElem? hx) (fun o μ4 => match o with
        | some e => (((xs.take i).filter p).map g).length < sizeLine ∧ ((xs.take i).filter p).map g ++ [e] = ((xs.take (i + 1)).filter p).map g ∧ μ4 = μ'
        | none => ((xs.take i).filter p).map g = ((xs.take (i + 1)).filter p).map g ∧ μ4 = μ') (by
          rw [e1, List.filter_append]
          by_cases q : p x = true
          · rw [if_pos q]
            have := pre i
            exact ⟨by rw [List.length_map]; omega, by simp [List.filter_cons, q], rfl⟩
          · rw [if_neg q]
            exact ⟨by simp [List.filter_cons, q], rfl⟩)
      exact hq
  · rintro acc μ' ⟨rfl, rfl⟩
    have : (xs.map f).length = xs.length := List.length_map ..
    rw [this, List.take_of_length_le (Nat.le_refl _)]
    exact he
theorem lc_pure {xs : List α} (f g : α → D) (hz : xs.length ≤ sizeLine) (hG : G μ)
    (hs : ∀ x, x ∈ xs → ∀ U : Option D → Mu → Prop, U (some (g x)) μ → wg (f x) (wipeG γ vs) fun γ2 => wt γ2 μ X0 fun b μ3 => if b = true then we γ2 μ3 X0 fun e => U (some e) else U none μ3)
    (he : Λ' (xs.map g) μ) : dLcT wg wt we vs γ (xs.map f) G μ Λ' :=
  lc_filter f g (fun _ => true) hz hG (fun x hx U h => hs x hx U (by rw [if_pos rfl] at h; exact h)) (by rw [List.filter_eq_self.mpr (fun _ _ => rfl)]; exact he)
end
end DL

open PySem L2 DL in
local macro_rules | `(tactic| walk_at "d1") => `(tactic| first
  | with_reducible refine dSeq_i ?_ | with_reducible refine dAsg_i ?_ | with_reducible refine gNm_i ?_ | ((with_reducible refine dVar_x ?_); refine ⟨_, rfl, ?_⟩) | with_reducible refine dC_i ?_
  | with_reducible refine dOp_i ?_ | with_reducible refine dTest_i ?_ | with_reducible refine blEx_i ?_ | with_reducible refine blEx2_i ?_ | with_reducible refine intEx_i ?_ | with_reducible refine dIf_i ?_ | with_reducible refine dRet_i ?_ | with_reducible refine dRetN_i ?_ | with_reducible refine dDrop_i ?_ | with_reducible refine dNext_i ?_ | with_reducible refine dBreak_i ?_ | with_reducible refine dCont_i ?_ | with_reducible refine dRaise_i ?_
  | with_reducible refine dAnd_i ?_ | with_reducible refine dOr_i ?_ | with_reducible refine dNot_i ?_ | with_reducible refine dTru_i ?_ | with_reducible refine truBl_i ?_ | with_reducible refine truLst_i ?_ | with_reducible refine dAndV_i ?_ | with_reducible refine dOrV_i ?_ | with_reducible refine dNotV_i ?_ | with_reducible refine dIfE_i ?_
  | with_reducible refine dNil_i ?_ | with_reducible refine dCons_i ?_ | with_reducible refine dCall_i ?_ | with_reducible refine dBi_i ?_ | with_reducible refine dTup_i ?_ | with_reducible refine dLst_i ?_ | with_reducible refine dLstM_i ?_ | with_reducible refine dFld_i ?_ | with_reducible refine dSFld_i ?_ | with_reducible refine dMeth_i ?_ | with_reducible refine dBm_i ?_
  | with_reducible refine dSl_i ?_ | with_reducible refine dNoPart_i ?_ | with_reducible refine dPart_i ?_ | with_reducible refine dStar_i ?_ | with_reducible refine itEx_lst ?_ | with_reducible refine itEx_tup ?_ | with_reducible refine itEx_ktup ?_ | with_reducible refine itEx_fro ?_ | with_reducible refine liEx_lst ?_ | with_reducible refine dIt_i ?_ | with_reducible refine dLc_i ?_ | with_reducible refine dLcM_i ?_ | with_reducible refine dFor_i ?_ | with_reducible refine dYes_i ?_ | with_reducible refine cNm_i ?_ | with_reducible refine dRng1_i ?_ | ((with_reducible refine dAug_x ?_); refine ⟨_, rfl, ?_⟩)
  | with_reducible refine oAdd_int ?_ | with_reducible refine oSub_int ?_ | with_reducible refine oLt_int ?_ | with_reducible refine oLe_int ?_ | with_reducible refine oGt_int ?_ | with_reducible refine oGe_int ?_ | with_reducible refine oEq_int ?_ | with_reducible refine oNe_int ?_ | with_reducible refine oEq_str ?_ | with_reducible refine oNe_str ?_ | with_reducible refine oEq_bl ?_ | with_reducible refine oNe_bl ?_
  | ((with_reducible refine oMod_int ?dvh ?_); (case dvh => first | decide | omega | assumption)) | ((with_reducible refine oMul_int ?dvh ?_); (case dvh => first | (first | exact .inl ⟨by omega, by omega⟩ | exact .inr ⟨by omega, by omega⟩))) | ((with_reducible refine oDiv_int ?dvh ?_); (case dvh => exact ⟨by omega, by omega⟩)) | ((with_reducible refine oPow_int ?dvh ?_); (case dvh => exact ⟨by decide, by decide, by decide⟩))
  | with_reducible refine bLen_lst ?_ | with_reducible refine bLen_tup ?_ | with_reducible refine bLen_ktup ?_ | with_reducible refine bLen_fro ?_ | with_reducible refine bInt_int ?_ | with_reducible refine bInt_bl ?_ | with_reducible refine bStr_str ?_ | with_reducible refine bAll_bls ?_ | with_reducible refine bAny_bls ?_
  | with_reducible refine iteNT ?_ | with_reducible refine iteNF ?_ | with_reducible refine gIx_i ?_ | with_reducible refine dFrz_i ?_
  | with_reducible refine iteT ?_ | with_reducible refine iteF ?_)
local macro_rules | `(tactic| walk_at "d") => `(tactic| repeat walk_at "d1")

namespace Law
open PySem L2 DL
def topS (i : Nat) : Stmt := PySem.Challenge.pw_redomarks_k51_sets_of_their_own.main.body.getD i (.Pass ⟨0, 0, 0, 0⟩)
abbrev s_Marks_d_init : Stmt := inClass (topS 1) 0
abbrev s_Marks_d_eq : Stmt := inClass (topS 1) 1
abbrev s_Marks_d_len : Stmt := inClass (topS 1) 2
abbrev s_Marks_d_iter : Stmt := inClass (topS 1) 3
abbrev s_Marks_d_contains : Stmt := inClass (topS 1) 4
abbrev s_Marks_d_or : Stmt := inClass (topS 1) 5
abbrev s_Marks_d_and : Stmt := inClass (topS 1) 6
abbrev s_Marks_d_sub : Stmt := inClass (topS 1) 7
abbrev s_Marks_d_le : Stmt := inClass (topS 1) 8
abbrev s_Marks_d_ior : Stmt := inClass (topS 1) 9
abbrev s_law_tape : Stmt := topS 3
abbrev s_law_pick : Stmt := topS 4
abbrev s_law_letters_name : Stmt := topS 5
abbrev s_law_marks_of_up_to_three : Stmt := topS 6
abbrev s_law_due_names : Stmt := topS 7
abbrev s_law_given : Stmt := topS 8
abbrev s_law_distinct : Stmt := topS 9
abbrev s_law_alphabet : Stmt := topS 10
abbrev s_law : Stmt := topS 11
/-- where the defs and the classes stand -/
structure Adr where
  C_Marks : Addr
  f_law_tape : Addr
  f_law_pick : Addr
  f_law_letters_name : Addr
  f_Marks_d_init : Addr
  f_Marks_d_or : Addr
  f_Marks_d_and : Addr
  f_Marks_d_sub : Addr
  f_Marks_d_ior : Addr
  f_Marks_d_len : Addr
  f_law_marks_of_up_to_three : Addr
  f_law_distinct : Addr
  f_law_alphabet : Addr
  f_law_due_names : Addr
  f_law_given : Addr
  f_law : Addr
  f_Marks_d_iter : Addr
/-- what the top has written -/
structure Txt (K : PySem.W.Frag) (mg : Str → Option Value) (a : Adr) : Prop where
  F_law_tape : FunE K "_law_tape" "_law_tape" s_law_tape a.f_law_tape
  g_law_tape : mg "_law_tape" = some (.ref a.f_law_tape)
  F_law_pick : FunE K "_law_pick" "_law_pick" s_law_pick a.f_law_pick
  g_law_pick : mg "_law_pick" = some (.ref a.f_law_pick)
  F_law_letters_name : FunE K "_law_letters_name" "_law_letters_name" s_law_letters_name a.f_law_letters_name
  g_law_letters_name : mg "_law_letters_name" = some (.ref a.f_law_letters_name)
  F_Marks_d_init : FunE K "__init__" "Marks.__init__" s_Marks_d_init a.f_Marks_d_init
  F_Marks_d_or : FunE K "__or__" "Marks.__or__" s_Marks_d_or a.f_Marks_d_or
  m_Marks_d_or : OwnM K a.C_Marks "__or__" a.f_Marks_d_or
  F_Marks_d_and : FunE K "__and__" "Marks.__and__" s_Marks_d_and a.f_Marks_d_and
  m_Marks_d_and : OwnM K a.C_Marks "__and__" a.f_Marks_d_and
  F_Marks_d_sub : FunE K "__sub__" "Marks.__sub__" s_Marks_d_sub a.f_Marks_d_sub
  m_Marks_d_sub : OwnM K a.C_Marks "__sub__" a.f_Marks_d_sub
  F_Marks_d_ior : FunE K "__ior__" "Marks.__ior__" s_Marks_d_ior a.f_Marks_d_ior
  m_Marks_d_ior : OwnM K a.C_Marks "__ior__" a.f_Marks_d_ior
  F_Marks_d_len : FunE K "__len__" "Marks.__len__" s_Marks_d_len a.f_Marks_d_len
  m_Marks_d_len : OwnM K a.C_Marks "__len__" a.f_Marks_d_len
  F_law_marks_of_up_to_three : FunE K "_law_marks_of_up_to_three" "_law_marks_of_up_to_three" s_law_marks_of_up_to_three a.f_law_marks_of_up_to_three
  g_law_marks_of_up_to_three : mg "_law_marks_of_up_to_three" = some (.ref a.f_law_marks_of_up_to_three)
  F_law_distinct : FunE K "_law_distinct" "_law_distinct" s_law_distinct a.f_law_distinct
  g_law_distinct : mg "_law_distinct" = some (.ref a.f_law_distinct)
  F_law_alphabet : FunE K "_law_alphabet" "_law_alphabet" s_law_alphabet a.f_law_alphabet
  g_law_alphabet : mg "_law_alphabet" = some (.ref a.f_law_alphabet)
  F_law_due_names : FunE K "_law_due_names" "_law_due_names" s_law_due_names a.f_law_due_names
  g_law_due_names : mg "_law_due_names" = some (.ref a.f_law_due_names)
  F_law_given : FunE K "_law_given" "_law_given" s_law_given a.f_law_given
  g_law_given : mg "_law_given" = some (.ref a.f_law_given)
  F_law : FunE K "law" "law" s_law a.f_law
  g_law : mg "law" = some (.ref a.f_law)
  F_Marks_d_iter : FunE K "__iter__" "Marks.__iter__" s_Marks_d_iter a.f_Marks_d_iter
  m_Marks_d_iter : OwnM K a.C_Marks "__iter__" a.f_Marks_d_iter
  g_Marks : mg "Marks" = some (.ref a.C_Marks)
  o_Marks : OwnC K a.C_Marks
  sf_Marks : PySem.W.selfFirst K a.C_Marks = true
  nf_Marks : PySem.W.notFirst K a.C_Marks (.ref a.C_Marks) = true
  mk_Marks : Mk K a.C_Marks a.f_Marks_d_init
  n_Marks_names : NoAttr K a.C_Marks "names"
  i_Marks_Marks : PySem.W.kitOne K (.ref a.C_Marks) (.ref a.C_Marks) = some true
  z_int : mg "int" = none
  z_isinstance : mg "isinstance" = none
  z_iter : mg "iter" = none
  z_len : mg "len" = none
  z_list : mg "list" = none
  z_range : mg "range" = none
  z_sorted : mg "sorted" = none
  z_str : mg "str" = none
/-! ### the tape -/
def tapeM (c0 c1 c2 : Int) (xs : List Int) : MO := .lst [.int c0, .int c1, .int c2, .lst (xs.map D.int)]
def IsTape (m : MO) : Prop := ∃ c0 c1 c2 xs, m = tapeM c0 c1 c2 xs ∧ xs.length < 1048576 ∧ 0 ≤ c1 ∧ c1 ≤ xs.length ∧ 0 ≤ c2 ∧ c2 < 2147483647
def w_law_tape (_ : Adr) : TF := fun ds μ _ Φ => ∃ ns : List Int, ns.length ≤ 63 ∧ ds = [.fro (ns.map D.int)] ∧ ∀ p m, μ p = none → IsTape m → Φ (.adr p) (updM μ p m)
def w_law_pick (_ : Adr) : TF := fun ds μ _ Φ => ∃ tp m n, ds = [.adr tp, .int n] ∧ μ tp = some m ∧ IsTape m ∧ 0 < n ∧ n < 1073741824 ∧ ∀ r m', 0 ≤ r → r < n → IsTape m' → Φ (.int r) (updM μ tp m')
/-- a name of letters -/
def Nm (x : Str) : Prop := 1 ≤ x.length ∧ x.length ≤ 8 ∧ ∀ c ∈ x.cps.toList, 97 ≤ c ∧ c ≤ 122
def w_law_letters_name (_ : Adr) : TF := fun ds μ _ Φ => ∃ tp m, ds = [.adr tp] ∧ μ tp = some m ∧ IsTape m ∧ ∀ x m', Nm x → IsTape m' → Φ (.str x) (updM μ tp m')

/-! ### sets of names -/
abbrev sL (xs : List Str) : List D := xs.map D.str
def MkM (C : Addr) (ys : List Str) : MO := .ins C [("names", .lst (sL ys))]
def MkM0 (C : Addr) : MO := .ins C []
/-- the set of the names that p holds -/
def SetOf (ys : List Str) (p : Str → Prop) : Prop := Srt ys ∧ ∀ z, z ∈ ys ↔ p z
def t_Marks_d_init (a : Adr) : TF := fun ds μ _ Φ => ∃ s xs, ds = [.adr s, .tup (sL xs)] ∧ μ s = some (MkM0 a.C_Marks) ∧ xs.length < 64 ∧ ∀ ys, SetOf ys (· ∈ xs) → Φ .non (updM μ s (MkM a.C_Marks ys))
def w_Marks_d_init (a : Adr) : TF := wStar 1 (t_Marks_d_init a)
def w2 (C : Addr) (op : (Str → Prop) → (Str → Prop) → Str → Prop) : TF := fun ds μ _ Φ => ∃ s o xs ys, ds = [.adr s, .adr o] ∧ μ s = some (MkM C xs) ∧ μ o = some (MkM C ys) ∧ xs.length + ys.length < 64 ∧ ∀ p zs, μ p = none → SetOf zs (op (· ∈ xs) (· ∈ ys)) → Φ (.adr p) (updM μ p (MkM C zs))
def pOr (p q : Str → Prop) : Str → Prop := fun z => p z ∨ q z
def pAnd (p q : Str → Prop) : Str → Prop := fun z => p z ∧ q z
def pSub (p q : Str → Prop) : Str → Prop := fun z => p z ∧ ¬ q z
def w_Marks_d_or (a : Adr) : TF := w2 a.C_Marks pOr
def w_Marks_d_and (a : Adr) : TF := w2 a.C_Marks pAnd
def w_Marks_d_sub (a : Adr) : TF := w2 a.C_Marks pSub
def w_Marks_d_ior (a : Adr) : TF := fun ds μ _ Φ => ∃ s o xs ys, ds = [.adr s, .adr o] ∧ μ s = some (MkM a.C_Marks xs) ∧ μ o = some (MkM a.C_Marks ys) ∧ Srt xs ∧ Srt ys ∧ xs.length + ys.length < 64 ∧ ∀ zs, SetOf zs (pOr (· ∈ xs) (· ∈ ys)) → Φ (.adr s) (updM μ s (MkM a.C_Marks zs))
def w_Marks_d_len (a : Adr) : TF := fun ds μ _ Φ => ∃ s xs, ds = [.adr s] ∧ μ s = some (MkM a.C_Marks xs) ∧ Φ (.int xs.length) μ
def w_law_marks_of_up_to_three (a : Adr) : TF := fun ds μ _ Φ => ∃ xs, ds = [.lst (sL xs)] ∧ xs.length ≤ 3 ∧ ∀ p ys, μ p = none → SetOf ys (· ∈ xs) → Φ (.adr p) (updM μ p (MkM a.C_Marks ys))
/-- the members that way `k` is due to give -/
def dueP (k : Int) (p q : Str → Prop) : Str → Prop := fun z => if k < 2 then p z ∨ q z else if k < 4 then p z ∧ q z else if k = 4 then p z ∧ ¬ q z else if k = 5 then q z ∧ ¬ p z else if k = 8 then False else p z
def w_law_due_names (_ : Adr) : TF := fun ds μ _ Φ => ∃ k xs ys, ds = [.int k, .lst (sL xs), .lst (sL ys)] ∧ xs.length + ys.length < 64 ∧ ∀ zs, (∀ z, z ∈ zs ↔ dueP k (· ∈ xs) (· ∈ ys) z) → zs.length ≤ xs.length + ys.length → Φ (.lst (sL zs)) μ
def w_law_given (a : Adr) : TF := fun ds μ _ Φ => ∃ k s o xs ys, ds = [.int k, .adr s, .adr o] ∧ 0 ≤ k ∧ k < 9 ∧ μ s = some (MkM a.C_Marks xs) ∧ μ o = some (MkM a.C_Marks ys) ∧ xs.length + xs.length + ys.length < 64 ∧ ∀ p zs, μ p = none → SetOf zs (dueP k (· ∈ xs) (· ∈ ys)) → Φ (.adr p) (updM μ p (MkM a.C_Marks zs))
def w_law_distinct (_ : Adr) : TF := fun ds μ _ Φ => ∃ xs, ds = [.lst (sL xs)] ∧ xs.length < 64 ∧ Φ (.lst (sL (dd xs))) μ
def w_law_alphabet (_ : Adr) : TF := fun ds μ _ Φ => ∃ xs, ds = [.lst (sL xs)] ∧ xs.length < 64 ∧ ∀ ys, SetOf ys (· ∈ xs) → Φ (.lst (sL ys)) μ
def w_law (_ : Adr) : TF := tLaw
/-- _law_tape -/
abbrev n_law_tape : List Str := ["script"]
theorem sc_law_tape : FnScope n_law_tape ["script"] (defScope s_law_tape) := ⟨rfl, rfl, rfl, by decide +kernel, rfl, by decide +kernel, by decide +kernel⟩
def B_law_tape (a : Adr) : TDS :=
  (dRet (dLstM (dCons (dC (.int 0)) (dCons (dC (.int 0)) (dCons (dC (.int 7)) (dCons (dBi bList (dCons (dVar 0) dNil)) dNil))))))
theorem D_law_tape {P : Program} {w : World} {K : PySem.W.Frag} {mg : Str → Option Value} {base : Heap} {a : Adr} (T : Txt K mg a)  (cdv : Value) (A : Around) (outer : List PySem.Env) (s : Shared) (H : Hp) (E : XK) (hr : Room 0 (A.deeper (PyProof.Rows.envOfC "_law_tape" (defScope s_law_tape) s.heap.objs.size a.f_law_tape cdv))) :
    PSs (cxOf (L2.CX P w) P w K mg base n_law_tape "_law_tape" (defScope s_law_tape) a.f_law_tape cdv A outer s H E) (defBody s_law_tape) (tDS K (fun cls d _ H => E cls d H) (B_law_tape a)) := by
  have tk : Takes (cxOf (L2.CX P w) P w K mg base n_law_tape "_law_tape" (defScope s_law_tape) a.f_law_tape cdv A outer s H E) (fun cls d _ H => E cls d H) := takes_of rfl rfl rfl rfl
  exact (ss_one (s_ret (e_lstM (a_cons e_int (a_cons e_int (a_cons e_int (a_cons (e_bt call_list_of bd_list T.z_list (a_cons (e_var 0) a_nil)) a_nil)))))))
/-- _law_pick -/
abbrev n_law_pick : List Str := ["tape", "count", "cell", "mixed", "digit"]
theorem sc_law_pick : FnScope n_law_pick ["tape", "count"] (defScope s_law_pick) := ⟨rfl, rfl, rfl, by decide +kernel, rfl, by decide +kernel, by decide +kernel⟩
def B_law_pick (a : Adr) : TDS :=
  (dSeq (dIf (dAnd (dTest (dOp oLt (dOp oIx (dVar 0) (dC (.int 0))) (dVar 1))) (dTest (dOp oLt (dOp oIx (dVar 0) (dC (.int 1))) (dBi bLen (dCons (dOp oIx (dVar 0) (dC (.int 3))) dNil))))) (dSeq (dAsg (dOp oIx (dOp oIx (dVar 0) (dC (.int 3))) (dOp oIx (dVar 0) (dC (.int 1)))) (gNm 2)) (dSeq (dAsg (dOp oAdd (dOp oIx (dVar 0) (dC (.int 1))) (dC (.int 1))) (gIx (dVar 0) (dC (.int 1)))) (dSeq (dAsg (dIfE (dTest (dOp oGe (dVar 2) (dOp oPow (dC (.int 10)) (dC (.int 18))))) (dVar 2) (dC (.int 0))) (gIx (dVar 0) (dC (.int 0)))) (dSeq (dAsg (dOp oAdd (dOp oMul (dOp oIx (dVar 0) (dC (.int 2))) (dC (.int 69621))) (dOp oMul (dOp oIx (dVar 0) (dC (.int 1))) (dC (.int 7919)))) (gNm 3)) (dAsg (dOp oMod (dBi bInt (dCons (dOp oAdd (dVar 3) (dOp oMul (dOp oMod (dBi bInt (dCons (dVar 2) dNil)) (dC (.int 1000003))) (dC (.int 48271)))) dNil)) (dC (.int 2147483647))) (gIx (dVar 0) (dC (.int 2)))))))) dNext) (dSeq (dIf (dTest (dOp oGe (dOp oIx (dVar 0) (dC (.int 0))) (dVar 1))) (dSeq (dAsg (dOp oMod (dBi bInt (dCons (dOp oIx (dVar 0) (dC (.int 0))) dNil)) (dVar 1)) (gNm 4)) (dSeq (dAsg (dOp oDiv (dOp oIx (dVar 0) (dC (.int 0))) (dVar 1)) (gIx (dVar 0) (dC (.int 0)))) (dRet (dVar 4)))) dNext) (dSeq (dAsg (dOp oMod (dBi bInt (dCons (dOp oAdd (dOp oMul (dOp oIx (dVar 0) (dC (.int 2))) (dC (.int 48271))) (dC (.int 12345))) dNil)) (dC (.int 2147483647))) (gIx (dVar 0) (dC (.int 2)))) (dRet (dOp oMod (dBi bInt (dCons (dOp oDiv (dOp oIx (dVar 0) (dC (.int 2))) (dC (.int 64))) dNil)) (dVar 1))))))
theorem D_law_pick {P : Program} {w : World} {K : PySem.W.Frag} {mg : Str → Option Value} {base : Heap} {a : Adr} (T : Txt K mg a)  (cdv : Value) (A : Around) (outer : List PySem.Env) (s : Shared) (H : Hp) (E : XK) (hr : Room 0 (A.deeper (PyProof.Rows.envOfC "_law_pick" (defScope s_law_pick) s.heap.objs.size a.f_law_pick cdv))) :
    PSs (cxOf (L2.CX P w) P w K mg base n_law_pick "_law_pick" (defScope s_law_pick) a.f_law_pick cdv A outer s H E) (defBody s_law_pick) (tDS K (fun cls d _ H => E cls d H) (B_law_pick a)) := by
  have tk : Takes (cxOf (L2.CX P w) P w K mg base n_law_pick "_law_pick" (defScope s_law_pick) a.f_law_pick cdv A outer s H E) (fun cls d _ H => E cls d H) := takes_of rfl rfl rfl rfl
  exact (ss_cons (s_if (PW.pt (w_and (t_cmp op_lt od_lt (e_ix (e_var 0) e_int) (e_var 1)) (w_and1 (t_cmp op_lt od_lt (e_ix (e_var 0) e_int) (e_bi call_len bd_len T.z_len (a_cons (e_ix (e_var 0) e_int) a_nil)))))) (ss_cons (s_set 2 sc_law_pick.nd (e_ix (e_ix (e_var 0) e_int) (e_ix (e_var 0) e_int))) (ss_cons (s_asg (e_bin op_addA od_add (e_ix (e_var 0) e_int) e_int) (g_ix (e_var 0) e_int)) (ss_cons (s_asg (e_if (t_cmp op_ge od_ge (e_var 2) (e_bin op_pow od_pow e_int e_int)) (e_var 2) e_int) (g_ix (e_var 0) e_int)) (ss_cons (s_set 3 sc_law_pick.nd (e_bin op_addA od_add (e_bin op_mul od_mul (e_ix (e_var 0) e_int) e_int) (e_bin op_mul od_mul (e_ix (e_var 0) e_int) e_int))) (ss_one (s_asg (e_bin op_mod od_mod (e_bt call_int1 bd_int T.z_int (a_cons (e_bin op_addA od_add (e_var 3) (e_bin op_mul od_mul (e_bin op_mod od_mod (e_bt call_int1 bd_int T.z_int (a_cons (e_var 2) a_nil)) e_int) e_int)) a_nil)) e_int) (g_ix (e_var 0) e_int))))))) ss_nil) (ss_cons (s_if (t_cmp op_ge od_ge (e_ix (e_var 0) e_int) (e_var 1)) (ss_cons (s_set 4 sc_law_pick.nd (e_bin op_mod od_mod (e_bt call_int1 bd_int T.z_int (a_cons (e_ix (e_var 0) e_int) a_nil)) (e_var 1))) (ss_cons (s_asg (e_bin op_fdiv od_div (e_ix (e_var 0) e_int) (e_var 1)) (g_ix (e_var 0) e_int)) (ss_one (s_ret (e_var 4))))) ss_nil) (ss_cons (s_asg (e_bin op_mod od_mod (e_bt call_int1 bd_int T.z_int (a_cons (e_bin op_addA od_add (e_bin op_mul od_mul (e_ix (e_var 0) e_int) e_int) e_int) a_nil)) e_int) (g_ix (e_var 0) e_int)) (ss_one (s_ret (e_bin op_mod od_mod (e_bt call_int1 bd_int T.z_int (a_cons (e_bin op_fdiv od_div (e_ix (e_var 0) e_int) e_int) a_nil)) (e_var 1)))))))
theorem len_law_tape {a : Adr} {ds μ Ξ Φ} (h : w_law_tape a ds μ Ξ Φ) : ds.length = 1 := by obtain ⟨ns, _, rfl, _⟩ := h; rfl
theorem read_law_tape {a : Adr} : ∀ ds μ Ξ Φ, w_law_tape a ds μ Ξ Φ → B_law_tape a { nx := fun _ μ' => Φ .non μ', rt := Φ } (startG n_law_tape ds) μ (fun _ => Ξ) := by
  rintro ds μ Ξ Φ ⟨ns, hn, rfl, h⟩
  unfold B_law_tape
  walk_at "d"
  refine bList_items (xs := ns.map D.int) rfl ?_
  walk_at "d"
  exact ⟨sz_of (show (4 : Nat) ≤ _ by decide), fun p hp => h p _ hp ⟨0, 0, 7, ns, rfl, by omega, by omega, by omega, by omega, by omega⟩⟩
theorem ok_law_tape {P : Program} {w : World} {K : PySem.W.Frag} {mg : Str → Option Value} {base : Heap} {a : Adr} (T : Txt K mg a)  : FnD P w K mg base 1 a.f_law_tape (w_law_tape a) := by
  obtain ⟨fd, F⟩ := T.F_law_tape.ex
  exact fn_D F (F.binds (ps := ["script"]) fun _ _ _ _ _ _ us hl => match us, hl with | [_], _ => rfl) sc_law_tape (fun ds μ Ξ Φ h => len_law_tape h) fun cdv A outer s H E hr => ⟨B_law_tape a, D_law_tape T  cdv A outer s H E hr, fun ds μ Ξ Φ h => read_law_tape ds μ Ξ Φ h⟩
theorem len_law_pick {a : Adr} {ds μ Ξ Φ} (h : w_law_pick a ds μ Ξ Φ) : ds.length = 2 := by obtain ⟨_, _, _, rfl, _⟩ := h; rfl
theorem tape_get {μ : Mu} {tp : Addr} {c0 c1 c2 : Int} {xs : List Int} : itemsD (updM μ tp (tapeM c0 c1 c2 xs)) (.adr tp) = some [.int c0, .int c1, .int c2, .lst (xs.map D.int)] := items_adr updM_same
theorem tape_l {μ : Mu} {tp : Addr} {c0 c1 c2 : Int} {xs : List Int} : (updM μ tp (tapeM c0 c1 c2 xs)) tp = some (.lst [.int c0, .int c1, .int c2, .lst (xs.map D.int)]) := updM_same
theorem read_law_pick {a : Adr} : ∀ ds μ Ξ Φ, w_law_pick a ds μ Ξ Φ → B_law_pick a { nx := fun _ μ' => Φ .non μ', rt := Φ } (startG n_law_pick ds) μ (fun _ => Ξ) := by
  rintro ds μ Ξ Φ ⟨tp, m, n, rfl, ht, ⟨c0, c1, c2, xs, rfl, hx, h1, h1', h2, h2'⟩, hn, hn', h⟩
  unfold B_law_pick
  refine dSeq_to (fun γ' μ' => ∃ d0 d1 d2 o2 o3, γ' = [some (.adr tp), some (.int n), o2, o3, none] ∧ μ' = updM μ tp (tapeM d0 d1 d2 xs) ∧ 0 ≤ d1 ∧ d1 ≤ xs.length ∧ 0 ≤ d2 ∧ d2 < 2147483647) ?_ fun U hU => ?_
  · rintro γ' μ' ⟨d0, d1, d2, o2, o3, rfl, rfl, g1, g1', g2, g2'⟩
    refine dSeq_i ?_
    refine dIf_i ?_
    walk_at "d"
    refine oIx_items tape_get rfl ?_
    walk_at "d"
    refine ite_d (fun q => ?_) fun q => ?_
    · walk_at "d"
      refine oIx_items tape_get rfl ?_
      walk_at "d"
      refine oIx_items tape_get rfl ?_
      walk_at "d"
      refine gIxE_i 0 tape_l (by rfl) ?_
      walk_at "d"
      rw [updM_updM]
      exact h _ _ (Int.emod_nonneg _ (by omega)) (Int.emod_lt_of_pos _ hn) ⟨_, _, _, xs, rfl, hx, g1, g1', g2, g2'⟩
    · walk_at "d"
      refine oIx_items tape_get rfl ?_
      walk_at "d"
      refine gIxE_i 2 tape_l (by rfl) ?_
      walk_at "d"
      refine oIx_items (d := .int ((d2 * 48271 + 12345) % 2147483647)) (items_adr updM_same) rfl ?_
      walk_at "d"
      rw [updM_updM]
      exact h _ _ (Int.emod_nonneg _ (by omega)) (Int.emod_lt_of_pos _ hn) ⟨_, _, _, xs, rfl, hx, g1, g1', Int.emod_nonneg _ (by omega), Int.emod_lt_of_pos _ (by omega)⟩
  · have e0 : updM μ tp (tapeM c0 c1 c2 xs) = μ := updM_self ht
    have no : ∀ o2 o3, U [some (.adr tp), some (.int n), o2, o3, none] (updM μ tp (tapeM c0 c1 c2 xs)) := fun o2 o3 => hU _ _ ⟨c0, c1, c2, o2, o3, rfl, rfl, h1, h1', h2, h2'⟩
    rw [← e0]
    walk_at "d"
    refine oIx_items tape_get rfl ?_
    walk_at "d"
    refine ite_d (fun q => ?_) fun q => ?_
    · refine dTest_i ?_
      walk_at "d"
      refine oIx_items tape_get rfl ?_
      walk_at "d"
      refine oIx_items tape_get rfl ?_
      walk_at "d"
      refine ite_d (fun q2 => ?_) fun q2 => ?_
      · rw [List.length_map] at q2
        walk_at "d"
        refine oIx_items tape_get rfl ?_
        walk_at "d"
        refine oIx_items tape_get rfl ?_
        obtain ⟨cell, _, _, hc⟩ := atI_map (f := D.int) h1 q2
        refine oIx_items rfl hc ?_
        walk_at "d"
        refine oIx_items tape_get rfl ?_
        walk_at "d"
        refine gIxE_i 1 tape_l (by rfl) ?_
        rw [updM_updM]
        walk_at "d"
        have fin : ∀ e0 : Int, U [some (.adr tp), some (.int n), some (.int cell), some (.int (c2 * 69621 + (c1 + 1) * 7919)), none] (updM μ tp (tapeM e0 (c1 + 1) ((c2 * 69621 + (c1 + 1) * 7919 + cell % 1000003 * 48271) % 2147483647) xs)) := fun e0 => hU _ _ ⟨_, _, _, _, _, rfl, rfl, by omega, by omega, Int.emod_nonneg _ (by omega), Int.emod_lt_of_pos _ (by omega)⟩
        have hq : 0 ≤ cell % 1000003 ∧ cell % 1000003 < 1000003 := ⟨Int.emod_nonneg _ (by omega), Int.emod_lt_of_pos _ (by omega)⟩
        have rest : ∀ e0 : Int, _ := fun e0 => fin e0
        refine ite_d (fun q3 => ?_) fun q3 => ?_
        all_goals
          walk_at "d"
          refine gIxE_i 0 updM_same (by rfl) ?_
          rw [updM_updM]
          walk_at "d"
          refine oIx_items (items_adr updM_same) rfl ?_
          walk_at "d"
          refine oIx_items (items_adr updM_same) rfl ?_
          walk_at "d"
          refine gIxE_i 2 updM_same (by rfl) ?_
          rw [updM_updM]
          exact fin _
      · exact no _ _
    · exact no _ _
theorem ok_law_pick {P : Program} {w : World} {K : PySem.W.Frag} {mg : Str → Option Value} {base : Heap} {a : Adr} (T : Txt K mg a)  : FnD P w K mg base 1 a.f_law_pick (w_law_pick a) := by
  obtain ⟨fd, F⟩ := T.F_law_pick.ex
  exact fn_D F (F.binds (ps := ["tape", "count"]) fun _ _ _ _ _ _ us hl => match us, hl with | [_, _], _ => rfl) sc_law_pick (fun ds μ Ξ Φ h => len_law_pick h) fun cdv A outer s H E hr => ⟨B_law_pick a, D_law_pick T  cdv A outer s H E hr, fun ds μ Ξ Φ h => read_law_pick ds μ Ξ Φ h⟩

/-- _law_letters_name -/
abbrev n_law_letters_name : List Str := ["tape", "letters", "k"]
theorem sc_law_letters_name : FnScope n_law_letters_name ["tape"] (defScope s_law_letters_name) := ⟨rfl, rfl, rfl, by decide +kernel, rfl, by decide +kernel, by decide +kernel⟩
def B_law_letters_name (a : Adr) : TDS :=
  (dSeq (dAsg (dC (.str "abcdefghijklmnopqrstuvwxyz")) (gNm 1)) (dRet (dBm isStr mJoin (dC (.str "")) (dCons (dLc (dRng1 (dCons (dOp oAdd (dC (.int 1)) (dCall (w_law_pick a) (dCons (dVar 0) (dCons (dC (.int 8)) dNil)))) dNil)) (cNm 2) dYes (dOp oIx (dVar 1) (dCall (w_law_pick a) (dCons (dVar 0) (dCons (dC (.int 26)) dNil)))) [2]) dNil))))
theorem D_law_letters_name {P : Program} {w : World} {K : PySem.W.Frag} {mg : Str → Option Value} {base : Heap} {a : Adr} (T : Txt K mg a) (G_law_pick : FnD P w K mg base 1 a.f_law_pick (w_law_pick a)) (cdv : Value) (A : Around) (outer : List PySem.Env) (s : Shared) (H : Hp) (E : XK) (hr : Room 1 (A.deeper (PyProof.Rows.envOfC "_law_letters_name" (defScope s_law_letters_name) s.heap.objs.size a.f_law_letters_name cdv))) :
    PSs (cxOf (L2.CX P w) P w K mg base n_law_letters_name "_law_letters_name" (defScope s_law_letters_name) a.f_law_letters_name cdv A outer s H E) (defBody s_law_letters_name) (tDS K (fun cls d _ H => E cls d H) (B_law_letters_name a)) := by
  have tk : Takes (cxOf (L2.CX P w) P w K mg base n_law_letters_name "_law_letters_name" (defScope s_law_letters_name) a.f_law_letters_name cdv A outer s H E) (fun cls d _ H => E cls d H) := takes_of rfl rfl rfl rfl
  exact (ss_cons (s_set 1 sc_law_letters_name.nd e_str) (ss_one (s_ret (e_bm PySem.F.plainAttrs_str PySem.F.slot_str_join PySem.F.type_str_join mt_join md_join e_str (a_cons (e_lc (own := [("k", 2)]) rfl sc_law_letters_name.nd (ct_name 2) (i_range1 T.z_range (a_cons (e_bin op_addA od_add e_int (e_call (cal_def G_law_pick (hr.mono (by decide)) tk) T.g_law_pick T.F_law_pick.kp (a_cons (e_var 0) (a_cons e_int a_nil)))) a_nil)) (blkOk_by (own := [("k", 2)]) (N := n_law_letters_name) (sc := defScope s_law_letters_name) (by decide +kernel)) (fun _ _ _ _ _ => (pg_name (i := 2) sc_law_letters_name.nd rfl (by first | exact .inl rfl | exact .inr rfl))) (fun _ _ _ _ _ => ts_nil) (fun _ _ _ _ _ => (e_ix (e_var 1) (e_call (cal_def G_law_pick (hr.mono (by decide)) takes0) T.g_law_pick T.F_law_pick.kp (a_cons (e_var 0) (a_cons e_int a_nil)))))) a_nil)))))
theorem Nm.ok {x : Str} (h : Nm x) : PyData.strOk x = true := by
  unfold PyData.strOk
  rw [← Array.all_toList, List.all_eq_true]
  intro c hc
  have := h.2.2 c hc
  exact decide_eq_true (by omega)
theorem joinL_one : ∀ cs : List Nat, TL.joinL [] (cs.map fun c => [c]) = cs
  | [] => rfl
  | [c] => rfl
  | c :: e :: r => by
    show [c] ++ ([] ++ TL.joinL [] ((e :: r).map fun c => [c])) = _
    rw [joinL_one (e :: r)]; rfl
theorem tl_one (c : Nat) : TL.tl (⟨#[c]⟩ : Str) = [c] := rfl
theorem tl_empty : TL.tl ("" : Str) = [] := rfl
theorem tl_ones (cs : List Nat) : TL.tl (Txt.join "" (cs.map fun c => (⟨#[c]⟩ : Str))) = cs := by
  have e := TL.join_eq "" (cs.map fun c => (⟨#[c]⟩ : Str))
  rw [e, TL.tl_join, tl_empty, List.map_map]
  exact joinL_one cs
theorem alpha_all : ("abcdefghijklmnopqrstuvwxyz" : Str).cps.toList.all (fun c => decide (97 ≤ c) && decide (c ≤ 122)) = true := by decide +kernel
theorem alpha_at {r : Int} (h0 : 0 ≤ r) (h1 : r < 26) : ∃ c, (97 ≤ c ∧ c ≤ 122) ∧ atI ("abcdefghijklmnopqrstuvwxyz" : Str).cps.toList r = some c := by
  have hl : ("abcdefghijklmnopqrstuvwxyz" : Str).cps.toList.length = 26 := by decide +kernel
  obtain ⟨c, hc, _, h⟩ := atI_int h0 (xs := ("abcdefghijklmnopqrstuvwxyz" : Str).cps.toList) (by rw [hl]; exact h1)
  have := List.all_eq_true.mp alpha_all c hc
  simp only [Bool.and_eq_true, decide_eq_true_eq] at this
  exact ⟨c, this, h⟩
theorem len_law_letters_name {a : Adr} {ds μ Ξ Φ} (h : w_law_letters_name a ds μ Ξ Φ) : ds.length = 1 := by obtain ⟨_, _, rfl, _⟩ := h; rfl
theorem read_law_letters_name {a : Adr} : ∀ ds μ Ξ Φ, w_law_letters_name a ds μ Ξ Φ → B_law_letters_name a { nx := fun _ μ' => Φ .non μ', rt := Φ } (startG n_law_letters_name ds) μ (fun _ => Ξ) := by
  rintro ds μ Ξ Φ ⟨tp, m, rfl, ht, hm, h⟩
  unfold B_law_letters_name
  walk_at "d"
  refine ⟨isStr_i, ?_⟩
  walk_at "d"
  refine ⟨tp, m, 8, rfl, ht, hm, by omega, by omega, fun r m' r0 r1 hm' => ?_⟩
  walk_at "d"
  refine ⟨1 + r, rfl, by omega, by omega, ?_⟩
  refine lc_map (fun c : Nat => D.str ⟨#[c]⟩) (fun c => 97 ≤ c ∧ c ≤ 122) (fun μ' => ∃ m', IsTape m' ∧ μ' = updM μ tp m') (by simp only [rngD, List.length_map, List.length_range]; exact sz_of (by omega)) ⟨m', hm', rfl⟩ (fun _ _ => trivial) ?_ ?_
  · rintro i d μ' hd ⟨m1, hm1, rfl⟩ U hU
    walk_at "d"
    refine ⟨tp, m1, 26, rfl, updM_same, hm1, by omega, by omega, fun r2 m2 r20 r21 hm2 => ?_⟩
    obtain ⟨c, hc, hr⟩ := alpha_at r20 r21
    refine oIx_str (c := c) (sz_of (by decide +kernel)) hr ?_
    exact hU c _ hc ⟨m2, hm2, updM_updM⟩
  · rintro ys μ' hl hq ⟨m1, hm1, rfl⟩
    have hl2 : ys.length = (1 + r).toNat := by rw [hl]; simp [rngD]
    walk_at "d"
    have e1 : (ys.map fun c : Nat => (⟨#[c]⟩ : Str)).map D.str = ys.map fun c : Nat => D.str ⟨#[c]⟩ := by rw [List.map_map]; rfl
    have e2 : ((ys.map fun c : Nat => (⟨#[c]⟩ : Str)).map (·.length)).sum = ys.length := by
      rw [List.map_map]
      clear hl hq hl2 e1
      induction ys with
      | nil => rfl
      | cons c cs ih => rw [List.map_cons, List.sum_cons, ih]; show 1 + cs.length = _; rw [List.length_cons]; omega
    refine mJoin_i (ys := ys.map fun c : Nat => (⟨#[c]⟩ : Str)) (by rw [e1]; rfl) (by rw [e2]; show _ + _ * 0 ≤ _; omega) (h _ m1 ?_ hm1)
    have e3 := tl_ones ys
    have e4 : (Txt.join "" (ys.map fun c : Nat => (⟨#[c]⟩ : Str))).length = ys.length := by
      rw [← congrArg List.length e3]; exact Array.length_toList.symm
    refine ⟨by rw [e4]; omega, by rw [e4]; omega, fun c hc => ?_⟩
    have hc : c ∈ TL.tl (Txt.join "" (ys.map fun c : Nat => (⟨#[c]⟩ : Str))) := hc
    rw [e3] at hc
    exact hq c hc
theorem ok_law_letters_name {P : Program} {w : World} {K : PySem.W.Frag} {mg : Str → Option Value} {base : Heap} {a : Adr} (T : Txt K mg a) (G_law_pick : FnD P w K mg base 1 a.f_law_pick (w_law_pick a)) : FnD P w K mg base 2 a.f_law_letters_name (w_law_letters_name a) := by
  obtain ⟨fd, F⟩ := T.F_law_letters_name.ex
  exact fn_D F (F.binds (ps := ["tape"]) fun _ _ _ _ _ _ us hl => match us, hl with | [_], _ => rfl) sc_law_letters_name (fun ds μ Ξ Φ h => len_law_letters_name h) fun cdv A outer s H E hr => ⟨B_law_letters_name a, D_law_letters_name T G_law_pick cdv A outer s H E hr, fun ds μ Ξ Φ h => read_law_letters_name ds μ Ξ Φ h⟩

/-- Marks.__init__ -/
abbrev n_Marks_d_init : List Str := ["self", "names", "kept", "name"]
theorem sc_Marks_d_init : FnScope n_Marks_d_init ["self", "names"] (defScope s_Marks_d_init) := ⟨rfl, rfl, rfl, by decide +kernel, rfl, by decide +kernel, by decide +kernel⟩
def B_Marks_d_init (a : Adr) : TDS :=
  (dSeq (dAsg (dLstM dNil) (gNm 2)) (dSeq (dFor (dIt (dVar 1)) (gNm 3) (dIf (dTest (dOp (oIn true) (dVar 3) (dVar 2))) (dDrop (dBm isLis mAppend (dVar 2) (dCons (dVar 3) dNil))) dNext)) (dSFld a.C_Marks "names" (dVar 0) (dBi bSorted (dCons (dLc (dIt (dFrz (dVar 2))) (cNm 3) dYes (dBi bStr (dCons (dVar 3) dNil)) [3]) dNil)))))
theorem D_Marks_d_init {P : Program} {w : World} {K : PySem.W.Frag} {mg : Str → Option Value} {base : Heap} {a : Adr} (T : Txt K mg a)  (cdv : Value) (A : Around) (outer : List PySem.Env) (s : Shared) (H : Hp) (E : XK) (hr : Room 0 (A.deeper (PyProof.Rows.envOfC "Marks.__init__" (defScope s_Marks_d_init) s.heap.objs.size a.f_Marks_d_init cdv))) :
    PSs (cxOf (L2.CX P w) P w K mg base n_Marks_d_init "Marks.__init__" (defScope s_Marks_d_init) a.f_Marks_d_init cdv A outer s H E) (defBody s_Marks_d_init) (tDS K (fun cls d _ H => E cls d H) (B_Marks_d_init a)) := by
  have tk : Takes (cxOf (L2.CX P w) P w K mg base n_Marks_d_init "Marks.__init__" (defScope s_Marks_d_init) a.f_Marks_d_init cdv A outer s H E) (fun cls d _ H => E cls d H) := takes_of rfl rfl rfl rfl
  exact (ss_cons (s_set 2 sc_Marks_d_init.nd (e_lstM a_nil)) (ss_cons (s_for (passes_of rfl) rfl (i_seq (e_var 1)) (g_name 3 sc_Marks_d_init.nd) (ss_one (s_if (t_cmp op_notIn_seq od_in (e_var 3) (e_var 2)) (ss_one (s_expr (e_bm PySem.F.plainAttrs_list PySem.F.slot_list_append PySem.F.type_list_append mt_append md_append (e_var 2) (a_cons (e_var 3) a_nil)))) ss_nil))) (ss_one (s_fld T.o_Marks.cl T.n_Marks_names (e_var 0) (e_bi cr_sortedS bd_sorted T.z_sorted (a_cons (e_lc (own := [("name", 3)]) rfl sc_Marks_d_init.nd (ct_name 3) (i_seq (e_frz (e_var 2))) (blkOk_by (own := [("name", 3)]) (N := n_Marks_d_init) (sc := defScope s_Marks_d_init) (by decide +kernel)) (fun _ _ _ _ _ => (pg_name (i := 3) sc_Marks_d_init.nd rfl (by first | exact .inl rfl | exact .inr rfl))) (fun _ _ _ _ _ => ts_nil) (fun _ _ _ _ _ => (e_bt SkE.call_str_str bd_str T.z_str (a_cons (e_var 3) a_nil)))) a_nil))))))
theorem len_Marks_d_init {a : Adr} {ds μ Ξ Φ} (h : w_Marks_d_init a ds μ Ξ Φ) : True := trivial
theorem perm_set {xs ys zs : List Str} (hp : ys.Perm (dd xs)) (hs : PyProof.Rows.sortedS ys = true) (h : ∀ z, z ∈ xs ↔ z ∈ zs) : SetOf ys (· ∈ zs) :=
  ⟨srt_of hs (hp.nodup_iff.mpr (dd_nd xs)), fun z => by rw [hp.mem_iff, dd_mem]; exact h z⟩
theorem read_Marks_d_init {a : Adr} : ∀ ds μ Ξ Φ, t_Marks_d_init a ds μ Ξ Φ → B_Marks_d_init a { nx := fun _ μ' => Φ .non μ', rt := Φ } (startG n_Marks_d_init ds) μ (fun _ => Ξ) := by
  rintro ds μ Ξ Φ ⟨s, xs, rfl, hs, hz, h⟩
  unfold B_Marks_d_init
  walk_at "d"
  refine ⟨sz_of (by decide), fun p hp => ?_⟩
  have hsp := mu_ne hs hp
  walk_at "d"
  refine ⟨fun i γ' μ' => i ≤ xs.length ∧ (∃ o, γ' = [some (.adr s), some (.tup (sL xs)), some (.adr p), o]) ∧ μ' = updM μ p (.lst (sL (dd (xs.take i)))), ⟨Nat.zero_le _, ⟨none, rfl⟩, rfl⟩, fun _ _ _ _ => trivial, ?_, ?_⟩
  · rintro i d γ' μ' hd ⟨_, ⟨o, rfl⟩, rfl⟩
    rw [List.getElem?_map] at hd
    cases hx : xs[i]? with
    | none => rw [hx] at hd; cases hd
    | some x =>
      rw [hx] at hd
      cases hd
      have hi := (List.getElem?_eq_some_iff.mp hx).1
      have e1 : dd (xs.take (i + 1)) = if x ∈ dd (xs.take i) then dd (xs.take i) else dd (xs.take i) ++ [x] := by rw [List.take_succ, hx]; exact dd_snoc _ x
      walk_at "d"
      refine oNotIn_strs (items_adr updM_same) ?_
      walk_at "d"
      refine ite_nd (fun q => ?_) fun q => ?_
      · walk_at "d"
        refine ⟨isLis_adr updM_same, ?_⟩
        walk_at "d"
        have := dd_len (xs.take i)
        refine mAppend_i updM_same (sz_lt (by rw [List.length_map]; rw [List.length_take] at this; omega)) ⟨hi, ⟨_, rfl⟩, ?_⟩
        rw [updM_updM, e1, if_neg q, sL, sL, List.map_append]; rfl
      · walk_at "d"
        exact ⟨hi, ⟨_, rfl⟩, by rw [e1, if_pos q]⟩
  · rintro γ' μ' ⟨_, ⟨o, rfl⟩, rfl⟩
    have e0 : xs.take ((sL xs).length) = xs := by rw [List.length_map]; exact List.take_of_length_le (Nat.le_refl _)
    rw [e0]
    walk_at "d"
    refine frzE_l updM_same ?_
    rw [delM_updM hp]
    refine ⟨_, rfl, ?_⟩
    have := dd_len xs
    refine lc_pure D.str D.str (sz_of (by omega)) trivial (fun x _ U h => ?_) ?_
    · walk_at "d"
      exact h
    · walk_at "d"
      refine ⟨_, dd xs, rfl, rfl, by omega, fun ys hp hso => ?_⟩
      walk_at "d"
      exact ⟨s, [], rfl, hs, by decide, h ys (perm_set hp hso fun _ => Iff.rfl)⟩
theorem ok_Marks_d_init {P : Program} {w : World} {K : PySem.W.Frag} {mg : Str → Option Value} {base : Heap} {a : Adr} (T : Txt K mg a)  : FnD P w K mg base 1 a.f_Marks_d_init (w_Marks_d_init a) := by
  obtain ⟨oc, od, an, osl, kV, doc, pm, cdv, ct, lk, hcd⟩ := T.F_Marks_d_init.ex2
  exact fn_DS (ps := ["self"]) (pv := "names") lk hcd sc_Marks_d_init (by exact StX.bind_star1 (B := fun l => bindArgs _ ⟨l, []⟩) (fun _ => rfl) (fun _ _ _ => rfl)) fun A outer s H E hr => ⟨B_Marks_d_init a, D_Marks_d_init T  cdv A outer s H E hr, fun ds μ Ξ Φ h => read_Marks_d_init ds μ Ξ Φ h⟩
theorem make_Marks {a : Adr} {μ : Mu} {Ξ : XF} {Φ : KD} {xs : List Str} (hz : xs.length < 64) (h : ∀ p ys, μ p = none → SetOf ys (· ∈ xs) → Φ (.adr p) (updM μ p (MkM a.C_Marks ys))) : wMake a.C_Marks (w_Marks_d_init a) (sL xs) μ Ξ Φ :=
  fun x hx => ⟨[.adr x], sL xs, rfl, rfl, sz_of (by rw [List.length_map]; omega), x, xs, rfl, updM_same, hz, fun ys hys => ⟨rfl, by rw [updM_updM]; exact h x ys hx hys⟩⟩
theorem fld_Marks {C : Addr} {μ : Mu} {s : Addr} {xs : List Str} {P : D → Prop} (h : μ s = some (MkM C xs)) (k : P (.lst (sL xs))) : ∃ fs x, insD μ (.adr s) = some (C, fs) ∧ fs.lookup ("names" : Str) = some x ∧ P x := ⟨_, _, ins_adr h, rfl, k⟩
theorem isi_Marks {C : Addr} {μ : Mu} {s : Addr} {xs : List Str} {Φ : KD} (h : μ s = some (MkM C xs)) (k : Φ (.bl true) μ) : bIsi C C true [.adr s, .adr C] μ Φ := bIsi_ins (ins_adr h) k
theorem sL_app (xs ys : List Str) : sL xs ++ sL ys = sL (xs ++ ys) := (List.map_append).symm
/-- Marks.__or__ -/
abbrev n_Marks_d_or : List Str := ["self", "other", "names"]
theorem sc_Marks_d_or : FnScope n_Marks_d_or ["self", "other"] (defScope s_Marks_d_or) := ⟨rfl, rfl, rfl, by decide +kernel, rfl, by decide +kernel, by decide +kernel⟩
def B_Marks_d_or (a : Adr) : TDS :=
  (dSeq (dIf (dNot (dTru (dBi (bIsi a.C_Marks a.C_Marks true) (dCons (dVar 1) (dCons (dC (.adr a.C_Marks)) dNil))))) dNever dNext) (dSeq (dAsg (dOp oAdd (dFld a.C_Marks "names" (dVar 0)) (dFld a.C_Marks "names" (dVar 1))) (gNm 2)) (dRet (dCall (wMake a.C_Marks (w_Marks_d_init a)) (dStar (dVar 2) dNil)))))
theorem D_Marks_d_or {P : Program} {w : World} {K : PySem.W.Frag} {mg : Str → Option Value} {base : Heap} {a : Adr} (T : Txt K mg a) (G_Marks_d_init : FnD P w K mg base 1 a.f_Marks_d_init (w_Marks_d_init a)) (cdv : Value) (A : Around) (outer : List PySem.Env) (s : Shared) (H : Hp) (E : XK) (hr : Room 2 (A.deeper (PyProof.Rows.envOfC "Marks.__or__" (defScope s_Marks_d_or) s.heap.objs.size a.f_Marks_d_or cdv))) :
    PSs (cxOf (L2.CX P w) P w K mg base n_Marks_d_or "Marks.__or__" (defScope s_Marks_d_or) a.f_Marks_d_or cdv A outer s H E) (defBody s_Marks_d_or) (tDS K (fun cls d _ H => E cls d H) (B_Marks_d_or a)) := by
  have tk : Takes (cxOf (L2.CX P w) P w K mg base n_Marks_d_or "Marks.__or__" (defScope s_Marks_d_or) a.f_Marks_d_or cdv A outer s H E) (fun cls d _ H => E cls d H) := takes_of rfl rfl rfl rfl
  exact (ss_cons (s_if (t_not (t_tru (e_bi call_isi (bd_isi T.o_Marks T.i_Marks_Marks) T.z_isinstance (a_cons (e_var 1) (a_cons (e_gref T.g_Marks) a_nil))))) (ss_one s_never) ss_nil) (ss_cons (s_set 2 sc_Marks_d_or.nd (e_bin op_addA od_add (e_fld T.o_Marks.cl T.n_Marks_names (e_var 0) (by rfl)) (e_fld T.o_Marks.cl T.n_Marks_names (e_var 1) (by rfl)))) (ss_one (s_ret (e_callS (cal_class T.mk_Marks G_Marks_d_init (hr.mono (by decide)) tk) T.g_Marks T.mk_Marks.kp (e_var 2))))))
/-- Marks.__and__ -/
abbrev n_Marks_d_and : List Str := ["self", "other", "names", "name"]
theorem sc_Marks_d_and : FnScope n_Marks_d_and ["self", "other"] (defScope s_Marks_d_and) := ⟨rfl, rfl, rfl, by decide +kernel, rfl, by decide +kernel, by decide +kernel⟩
def B_Marks_d_and (a : Adr) : TDS :=
  (dSeq (dIf (dNot (dTru (dBi (bIsi a.C_Marks a.C_Marks true) (dCons (dVar 1) (dCons (dC (.adr a.C_Marks)) dNil))))) dNever dNext) (dSeq (dAsg (dLc (dIt (dFld a.C_Marks "names" (dVar 0))) (cNm 3) (dTest (dOp (oIn false) (dVar 3) (dFld a.C_Marks "names" (dVar 1)))) (dVar 3) [3]) (gNm 2)) (dRet (dCall (wMake a.C_Marks (w_Marks_d_init a)) (dStar (dVar 2) dNil)))))
theorem D_Marks_d_and {P : Program} {w : World} {K : PySem.W.Frag} {mg : Str → Option Value} {base : Heap} {a : Adr} (T : Txt K mg a) (G_Marks_d_init : FnD P w K mg base 1 a.f_Marks_d_init (w_Marks_d_init a)) (cdv : Value) (A : Around) (outer : List PySem.Env) (s : Shared) (H : Hp) (E : XK) (hr : Room 2 (A.deeper (PyProof.Rows.envOfC "Marks.__and__" (defScope s_Marks_d_and) s.heap.objs.size a.f_Marks_d_and cdv))) :
    PSs (cxOf (L2.CX P w) P w K mg base n_Marks_d_and "Marks.__and__" (defScope s_Marks_d_and) a.f_Marks_d_and cdv A outer s H E) (defBody s_Marks_d_and) (tDS K (fun cls d _ H => E cls d H) (B_Marks_d_and a)) := by
  have tk : Takes (cxOf (L2.CX P w) P w K mg base n_Marks_d_and "Marks.__and__" (defScope s_Marks_d_and) a.f_Marks_d_and cdv A outer s H E) (fun cls d _ H => E cls d H) := takes_of rfl rfl rfl rfl
  exact (ss_cons (s_if (t_not (t_tru (e_bi call_isi (bd_isi T.o_Marks T.i_Marks_Marks) T.z_isinstance (a_cons (e_var 1) (a_cons (e_gref T.g_Marks) a_nil))))) (ss_one s_never) ss_nil) (ss_cons (s_setLc (own := [("name", 3)]) 2 rfl sc_Marks_d_and.nd (ct_name 3) (i_seq (e_fld T.o_Marks.cl T.n_Marks_names (e_var 0) (by rfl))) (blkOk_by (own := [("name", 3)]) (N := n_Marks_d_and) (sc := defScope s_Marks_d_and) (by decide +kernel)) (fun _ _ _ _ _ => (pg_name (i := 3) sc_Marks_d_and.nd rfl (by first | exact .inl rfl | exact .inr rfl))) (fun _ _ _ _ _ => (ts_one (t_cmp op_in_seq od_in (e_var 3) (e_fld T.o_Marks.cl T.n_Marks_names (e_var 1) (by rfl))))) (fun _ _ _ _ _ => (e_var 3))) (ss_one (s_ret (e_callS (cal_class T.mk_Marks G_Marks_d_init (hr.mono (by decide)) tk) T.g_Marks T.mk_Marks.kp (e_var 2))))))
/-- Marks.__sub__ -/
abbrev n_Marks_d_sub : List Str := ["self", "other", "names", "name"]
theorem sc_Marks_d_sub : FnScope n_Marks_d_sub ["self", "other"] (defScope s_Marks_d_sub) := ⟨rfl, rfl, rfl, by decide +kernel, rfl, by decide +kernel, by decide +kernel⟩
def B_Marks_d_sub (a : Adr) : TDS :=
  (dSeq (dIf (dNot (dTru (dBi (bIsi a.C_Marks a.C_Marks true) (dCons (dVar 1) (dCons (dC (.adr a.C_Marks)) dNil))))) dNever dNext) (dSeq (dAsg (dLc (dIt (dFld a.C_Marks "names" (dVar 0))) (cNm 3) (dTest (dOp (oIn true) (dVar 3) (dFld a.C_Marks "names" (dVar 1)))) (dVar 3) [3]) (gNm 2)) (dRet (dCall (wMake a.C_Marks (w_Marks_d_init a)) (dStar (dVar 2) dNil)))))
theorem D_Marks_d_sub {P : Program} {w : World} {K : PySem.W.Frag} {mg : Str → Option Value} {base : Heap} {a : Adr} (T : Txt K mg a) (G_Marks_d_init : FnD P w K mg base 1 a.f_Marks_d_init (w_Marks_d_init a)) (cdv : Value) (A : Around) (outer : List PySem.Env) (s : Shared) (H : Hp) (E : XK) (hr : Room 2 (A.deeper (PyProof.Rows.envOfC "Marks.__sub__" (defScope s_Marks_d_sub) s.heap.objs.size a.f_Marks_d_sub cdv))) :
    PSs (cxOf (L2.CX P w) P w K mg base n_Marks_d_sub "Marks.__sub__" (defScope s_Marks_d_sub) a.f_Marks_d_sub cdv A outer s H E) (defBody s_Marks_d_sub) (tDS K (fun cls d _ H => E cls d H) (B_Marks_d_sub a)) := by
  have tk : Takes (cxOf (L2.CX P w) P w K mg base n_Marks_d_sub "Marks.__sub__" (defScope s_Marks_d_sub) a.f_Marks_d_sub cdv A outer s H E) (fun cls d _ H => E cls d H) := takes_of rfl rfl rfl rfl
  exact (ss_cons (s_if (t_not (t_tru (e_bi call_isi (bd_isi T.o_Marks T.i_Marks_Marks) T.z_isinstance (a_cons (e_var 1) (a_cons (e_gref T.g_Marks) a_nil))))) (ss_one s_never) ss_nil) (ss_cons (s_setLc (own := [("name", 3)]) 2 rfl sc_Marks_d_sub.nd (ct_name 3) (i_seq (e_fld T.o_Marks.cl T.n_Marks_names (e_var 0) (by rfl))) (blkOk_by (own := [("name", 3)]) (N := n_Marks_d_sub) (sc := defScope s_Marks_d_sub) (by decide +kernel)) (fun _ _ _ _ _ => (pg_name (i := 3) sc_Marks_d_sub.nd rfl (by first | exact .inl rfl | exact .inr rfl))) (fun _ _ _ _ _ => (ts_one (t_cmp op_notIn_seq od_in (e_var 3) (e_fld T.o_Marks.cl T.n_Marks_names (e_var 1) (by rfl))))) (fun _ _ _ _ _ => (e_var 3))) (ss_one (s_ret (e_callS (cal_class T.mk_Marks G_Marks_d_init (hr.mono (by decide)) tk) T.g_Marks T.mk_Marks.kp (e_var 2))))))
/-- Marks.__ior__ -/
abbrev n_Marks_d_ior : List Str := ["self", "other", "more", "name"]
theorem sc_Marks_d_ior : FnScope n_Marks_d_ior ["self", "other"] (defScope s_Marks_d_ior) := ⟨rfl, rfl, rfl, by decide +kernel, rfl, by decide +kernel, by decide +kernel⟩
def B_Marks_d_ior (a : Adr) : TDS :=
  (dSeq (dIf (dNot (dTru (dBi (bIsi a.C_Marks a.C_Marks true) (dCons (dVar 1) (dCons (dC (.adr a.C_Marks)) dNil))))) dNever dNext) (dSeq (dAsg (dLc (dIt (dFld a.C_Marks "names" (dVar 1))) (cNm 3) (dTest (dOp (oIn true) (dVar 3) (dFld a.C_Marks "names" (dVar 0)))) (dVar 3) [3]) (gNm 2)) (dSeq (dSFld a.C_Marks "names" (dVar 0) (dBi bSorted (dCons (dLc (dIt (dOp oAdd (dFld a.C_Marks "names" (dVar 0)) (dVar 2))) (cNm 3) dYes (dBi bStr (dCons (dVar 3) dNil)) [3]) dNil))) (dRet (dVar 0)))))
theorem D_Marks_d_ior {P : Program} {w : World} {K : PySem.W.Frag} {mg : Str → Option Value} {base : Heap} {a : Adr} (T : Txt K mg a)  (cdv : Value) (A : Around) (outer : List PySem.Env) (s : Shared) (H : Hp) (E : XK) (hr : Room 0 (A.deeper (PyProof.Rows.envOfC "Marks.__ior__" (defScope s_Marks_d_ior) s.heap.objs.size a.f_Marks_d_ior cdv))) :
    PSs (cxOf (L2.CX P w) P w K mg base n_Marks_d_ior "Marks.__ior__" (defScope s_Marks_d_ior) a.f_Marks_d_ior cdv A outer s H E) (defBody s_Marks_d_ior) (tDS K (fun cls d _ H => E cls d H) (B_Marks_d_ior a)) := by
  have tk : Takes (cxOf (L2.CX P w) P w K mg base n_Marks_d_ior "Marks.__ior__" (defScope s_Marks_d_ior) a.f_Marks_d_ior cdv A outer s H E) (fun cls d _ H => E cls d H) := takes_of rfl rfl rfl rfl
  exact (ss_cons (s_if (t_not (t_tru (e_bi call_isi (bd_isi T.o_Marks T.i_Marks_Marks) T.z_isinstance (a_cons (e_var 1) (a_cons (e_gref T.g_Marks) a_nil))))) (ss_one s_never) ss_nil) (ss_cons (s_setLc (own := [("name", 3)]) 2 rfl sc_Marks_d_ior.nd (ct_name 3) (i_seq (e_fld T.o_Marks.cl T.n_Marks_names (e_var 1) (by rfl))) (blkOk_by (own := [("name", 3)]) (N := n_Marks_d_ior) (sc := defScope s_Marks_d_ior) (by decide +kernel)) (fun _ _ _ _ _ => (pg_name (i := 3) sc_Marks_d_ior.nd rfl (by first | exact .inl rfl | exact .inr rfl))) (fun _ _ _ _ _ => (ts_one (t_cmp op_notIn_seq od_in (e_var 3) (e_fld T.o_Marks.cl T.n_Marks_names (e_var 0) (by rfl))))) (fun _ _ _ _ _ => (e_var 3))) (ss_cons (s_fld T.o_Marks.cl T.n_Marks_names (e_var 0) (e_bi cr_sortedS bd_sorted T.z_sorted (a_cons (e_lc (own := [("name", 3)]) rfl sc_Marks_d_ior.nd (ct_name 3) (i_seq (e_bin op_addA od_add (e_fld T.o_Marks.cl T.n_Marks_names (e_var 0) (by rfl)) (e_var 2))) (blkOk_by (own := [("name", 3)]) (N := n_Marks_d_ior) (sc := defScope s_Marks_d_ior) (by decide +kernel)) (fun _ _ _ _ _ => (pg_name (i := 3) sc_Marks_d_ior.nd rfl (by first | exact .inl rfl | exact .inr rfl))) (fun _ _ _ _ _ => ts_nil) (fun _ _ _ _ _ => (e_bt SkE.call_str_str bd_str T.z_str (a_cons (e_var 3) a_nil)))) a_nil))) (ss_one (s_ret (e_var 0))))))
/-- Marks.__len__ -/
abbrev n_Marks_d_len : List Str := ["self"]
theorem sc_Marks_d_len : FnScope n_Marks_d_len ["self"] (defScope s_Marks_d_len) := ⟨rfl, rfl, rfl, by decide +kernel, rfl, by decide +kernel, by decide +kernel⟩
def B_Marks_d_len (a : Adr) : TDS :=
  (dRet (dBi bLen (dCons (dFld a.C_Marks "names" (dVar 0)) dNil)))
theorem D_Marks_d_len {P : Program} {w : World} {K : PySem.W.Frag} {mg : Str → Option Value} {base : Heap} {a : Adr} (T : Txt K mg a)  (cdv : Value) (A : Around) (outer : List PySem.Env) (s : Shared) (H : Hp) (E : XK) (hr : Room 0 (A.deeper (PyProof.Rows.envOfC "Marks.__len__" (defScope s_Marks_d_len) s.heap.objs.size a.f_Marks_d_len cdv))) :
    PSs (cxOf (L2.CX P w) P w K mg base n_Marks_d_len "Marks.__len__" (defScope s_Marks_d_len) a.f_Marks_d_len cdv A outer s H E) (defBody s_Marks_d_len) (tDS K (fun cls d _ H => E cls d H) (B_Marks_d_len a)) := by
  have tk : Takes (cxOf (L2.CX P w) P w K mg base n_Marks_d_len "Marks.__len__" (defScope s_Marks_d_len) a.f_Marks_d_len cdv A outer s H E) (fun cls d _ H => E cls d H) := takes_of rfl rfl rfl rfl
  exact (ss_one (s_ret (e_bi call_len bd_len T.z_len (a_cons (e_fld T.o_Marks.cl T.n_Marks_names (e_var 0) (by rfl)) a_nil))))
theorem len_Marks_d_or {a : Adr} {ds μ Ξ Φ} (h : w_Marks_d_or a ds μ Ξ Φ) : ds.length = 2 := by obtain ⟨_, _, _, _, rfl, _⟩ := h; rfl
theorem read_Marks_d_or {a : Adr} : ∀ ds μ Ξ Φ, w_Marks_d_or a ds μ Ξ Φ → B_Marks_d_or a { nx := fun _ μ' => Φ .non μ', rt := Φ } (startG n_Marks_d_or ds) μ (fun _ => Ξ) := by
  rintro ds μ Ξ Φ ⟨s, o, xs, ys, rfl, hs, ho, hz, h⟩
  unfold B_Marks_d_or
  walk_at "d"
  refine isi_Marks ho ?_
  walk_at "d"
  refine fld_Marks hs ?_
  walk_at "d"
  refine fld_Marks ho ?_
  refine oAdd_lst (by simp only [List.length_map]; exact sz_of (by omega)) ?_
  walk_at "d"
  rw [sL_app]
  rw [List.append_nil]
  refine make_Marks (by simp; omega) fun p zs hp hz => h p zs hp ⟨hz.1, fun z => ?_⟩
  rw [hz.2]; exact List.mem_append
theorem ok_Marks_d_or {P : Program} {w : World} {K : PySem.W.Frag} {mg : Str → Option Value} {base : Heap} {a : Adr} (T : Txt K mg a) (G_Marks_d_init : FnD P w K mg base 1 a.f_Marks_d_init (w_Marks_d_init a)) : FnD P w K mg base 3 a.f_Marks_d_or (w_Marks_d_or a) := by
  obtain ⟨fd, F⟩ := T.F_Marks_d_or.ex
  exact fn_D F (F.binds (ps := ["self", "other"]) fun _ _ _ _ _ _ us hl => match us, hl with | [_, _], _ => rfl) sc_Marks_d_or (fun ds μ Ξ Φ h => len_Marks_d_or h) fun cdv A outer s H E hr => ⟨B_Marks_d_or a, D_Marks_d_or T G_Marks_d_init cdv A outer s H E hr, fun ds μ Ξ Φ h => read_Marks_d_or ds μ Ξ Φ h⟩
theorem len_Marks_d_and {a : Adr} {ds μ Ξ Φ} (h : w_Marks_d_and a ds μ Ξ Φ) : ds.length = 2 := by obtain ⟨_, _, _, _, rfl, _⟩ := h; rfl
theorem read_Marks_d_and {a : Adr} : ∀ ds μ Ξ Φ, w_Marks_d_and a ds μ Ξ Φ → B_Marks_d_and a { nx := fun _ μ' => Φ .non μ', rt := Φ } (startG n_Marks_d_and ds) μ (fun _ => Ξ) := by
  rintro ds μ Ξ Φ ⟨s, o, xs, ys, rfl, hs, ho, hz, h⟩
  unfold B_Marks_d_and
  walk_at "d"
  refine isi_Marks ho ?_
  walk_at "d"
  refine fld_Marks hs ?_
  refine ⟨_, rfl, ?_⟩
  refine lc_filter D.str D.str (fun z => decide (z ∈ ys)) (sz_of (by omega)) trivial (fun x _ U h => ?_) ?_
  · walk_at "d"
    refine fld_Marks ho ?_
    refine oIn_strs rfl ?_
    walk_at "d"
    refine ite_d (fun q => ?_) fun q => ?_
    · walk_at "d"
      rw [if_pos (decide_eq_true q)] at h; exact h
    · rw [if_neg (by simpa using q)] at h; exact h
  · walk_at "d"
    rw [List.append_nil]
    have := List.length_filter_le (fun z => decide (z ∈ ys)) xs
    refine make_Marks (by omega) fun p zs hp hz => h p zs hp ⟨hz.1, fun z => ?_⟩
    rw [hz.2]
    simp [pAnd]
theorem ok_Marks_d_and {P : Program} {w : World} {K : PySem.W.Frag} {mg : Str → Option Value} {base : Heap} {a : Adr} (T : Txt K mg a) (G_Marks_d_init : FnD P w K mg base 1 a.f_Marks_d_init (w_Marks_d_init a)) : FnD P w K mg base 3 a.f_Marks_d_and (w_Marks_d_and a) := by
  obtain ⟨fd, F⟩ := T.F_Marks_d_and.ex
  exact fn_D F (F.binds (ps := ["self", "other"]) fun _ _ _ _ _ _ us hl => match us, hl with | [_, _], _ => rfl) sc_Marks_d_and (fun ds μ Ξ Φ h => len_Marks_d_and h) fun cdv A outer s H E hr => ⟨B_Marks_d_and a, D_Marks_d_and T G_Marks_d_init cdv A outer s H E hr, fun ds μ Ξ Φ h => read_Marks_d_and ds μ Ξ Φ h⟩
theorem len_Marks_d_sub {a : Adr} {ds μ Ξ Φ} (h : w_Marks_d_sub a ds μ Ξ Φ) : ds.length = 2 := by obtain ⟨_, _, _, _, rfl, _⟩ := h; rfl
theorem read_Marks_d_sub {a : Adr} : ∀ ds μ Ξ Φ, w_Marks_d_sub a ds μ Ξ Φ → B_Marks_d_sub a { nx := fun _ μ' => Φ .non μ', rt := Φ } (startG n_Marks_d_sub ds) μ (fun _ => Ξ) := by
  rintro ds μ Ξ Φ ⟨s, o, xs, ys, rfl, hs, ho, hz, h⟩
  unfold B_Marks_d_sub
  walk_at "d"
  refine isi_Marks ho ?_
  walk_at "d"
  refine fld_Marks hs ?_
  refine ⟨_, rfl, ?_⟩
  refine lc_filter D.str D.str (fun z => !decide (z ∈ ys)) (sz_of (by omega)) trivial (fun x _ U h => ?_) ?_
  · walk_at "d"
    refine fld_Marks ho ?_
    refine oNotIn_strs rfl ?_
    walk_at "d"
    refine ite_nd (fun q => ?_) fun q => ?_
    · walk_at "d"
      rw [if_pos (by simpa using q)] at h; exact h
    · rw [if_neg (by simpa using q)] at h; exact h
  · walk_at "d"
    rw [List.append_nil]
    have := List.length_filter_le (fun z => !decide (z ∈ ys)) xs
    refine make_Marks (by omega) fun p zs hp hz => h p zs hp ⟨hz.1, fun z => ?_⟩
    rw [hz.2]
    simp [pSub]
theorem ok_Marks_d_sub {P : Program} {w : World} {K : PySem.W.Frag} {mg : Str → Option Value} {base : Heap} {a : Adr} (T : Txt K mg a) (G_Marks_d_init : FnD P w K mg base 1 a.f_Marks_d_init (w_Marks_d_init a)) : FnD P w K mg base 3 a.f_Marks_d_sub (w_Marks_d_sub a) := by
  obtain ⟨fd, F⟩ := T.F_Marks_d_sub.ex
  exact fn_D F (F.binds (ps := ["self", "other"]) fun _ _ _ _ _ _ us hl => match us, hl with | [_, _], _ => rfl) sc_Marks_d_sub (fun ds μ Ξ Φ h => len_Marks_d_sub h) fun cdv A outer s H E hr => ⟨B_Marks_d_sub a, D_Marks_d_sub T G_Marks_d_init cdv A outer s H E hr, fun ds μ Ξ Φ h => read_Marks_d_sub ds μ Ξ Φ h⟩
theorem len_Marks_d_ior {a : Adr} {ds μ Ξ Φ} (h : w_Marks_d_ior a ds μ Ξ Φ) : ds.length = 2 := by obtain ⟨_, _, _, _, rfl, _⟩ := h; rfl
theorem set_or {xs ys zs : List Str} (h1 : Srt xs) (h2 : Srt ys) (hp : zs.Perm (xs ++ ys.filter fun z => !decide (z ∈ xs))) (hs : PyProof.Rows.sortedS zs = true) : SetOf zs (pOr (· ∈ xs) (· ∈ ys)) := by
  refine ⟨srt_of hs (hp.nodup_iff.mpr (List.nodup_append.mpr ⟨h1.nodup, h2.nodup.filter _, fun x hx y hy e => ?_⟩)), fun z => ?_⟩
  · subst e
    rw [List.mem_filter] at hy
    simp [hx] at hy
  · rw [hp.mem_iff, List.mem_append, List.mem_filter]
    unfold pOr
    by_cases q : z ∈ xs <;> simp [q]
theorem read_Marks_d_ior {a : Adr} : ∀ ds μ Ξ Φ, w_Marks_d_ior a ds μ Ξ Φ → B_Marks_d_ior a { nx := fun _ μ' => Φ .non μ', rt := Φ } (startG n_Marks_d_ior ds) μ (fun _ => Ξ) := by
  rintro ds μ Ξ Φ ⟨s, o, xs, ys, rfl, hs, ho, s1, s2, hz, h⟩
  unfold B_Marks_d_ior
  walk_at "d"
  refine isi_Marks ho ?_
  walk_at "d"
  refine fld_Marks ho ?_
  refine ⟨_, rfl, ?_⟩
  refine lc_filter D.str D.str (fun z => !decide (z ∈ xs)) (sz_of (by omega)) trivial (fun x _ U h => ?_) ?_
  · walk_at "d"
    refine fld_Marks hs ?_
    refine oNotIn_strs rfl ?_
    walk_at "d"
    refine ite_nd (fun q => ?_) fun q => ?_
    · walk_at "d"
      rw [if_pos (by simpa using q)] at h; exact h
    · rw [if_neg (by simpa using q)] at h; exact h
  · have := List.length_filter_le (fun z => !decide (z ∈ xs)) ys
    walk_at "d"
    refine fld_Marks hs ?_
    walk_at "d"
    refine oAdd_lst (by simp only [List.length_map]; exact sz_of (by omega)) ?_
    rw [sL_app]
    refine ⟨_, rfl, ?_⟩
    refine lc_pure D.str D.str (sz_of (by rw [List.length_append]; omega)) trivial (fun x _ U h => ?_) ?_
    · walk_at "d"
      exact h
    · walk_at "d"
      refine ⟨_, _, rfl, rfl, by rw [List.length_append]; omega, fun zs hp hso => ?_⟩
      walk_at "d"
      refine ⟨s, _, rfl, hs, by simp, ?_⟩
      walk_at "d"
      exact h zs (set_or s1 s2 hp hso)
theorem ok_Marks_d_ior {P : Program} {w : World} {K : PySem.W.Frag} {mg : Str → Option Value} {base : Heap} {a : Adr} (T : Txt K mg a)  : FnD P w K mg base 1 a.f_Marks_d_ior (w_Marks_d_ior a) := by
  obtain ⟨fd, F⟩ := T.F_Marks_d_ior.ex
  exact fn_D F (F.binds (ps := ["self", "other"]) fun _ _ _ _ _ _ us hl => match us, hl with | [_, _], _ => rfl) sc_Marks_d_ior (fun ds μ Ξ Φ h => len_Marks_d_ior h) fun cdv A outer s H E hr => ⟨B_Marks_d_ior a, D_Marks_d_ior T  cdv A outer s H E hr, fun ds μ Ξ Φ h => read_Marks_d_ior ds μ Ξ Φ h⟩
theorem len_Marks_d_len {a : Adr} {ds μ Ξ Φ} (h : w_Marks_d_len a ds μ Ξ Φ) : ds.length = 1 := by obtain ⟨_, _, rfl, _⟩ := h; rfl
theorem read_Marks_d_len {a : Adr} : ∀ ds μ Ξ Φ, w_Marks_d_len a ds μ Ξ Φ → B_Marks_d_len a { nx := fun _ μ' => Φ .non μ', rt := Φ } (startG n_Marks_d_len ds) μ (fun _ => Ξ) := by
  rintro ds μ Ξ Φ ⟨s, xs, rfl, hs, h⟩
  unfold B_Marks_d_len
  walk_at "d"
  refine fld_Marks hs ?_
  walk_at "d"
  rw [List.length_map]; exact h
theorem ok_Marks_d_len {P : Program} {w : World} {K : PySem.W.Frag} {mg : Str → Option Value} {base : Heap} {a : Adr} (T : Txt K mg a)  : FnD P w K mg base 1 a.f_Marks_d_len (w_Marks_d_len a) := by
  obtain ⟨fd, F⟩ := T.F_Marks_d_len.ex
  exact fn_D F (F.binds (ps := ["self"]) fun _ _ _ _ _ _ us hl => match us, hl with | [_], _ => rfl) sc_Marks_d_len (fun ds μ Ξ Φ h => len_Marks_d_len h) fun cdv A outer s H E hr => ⟨B_Marks_d_len a, D_Marks_d_len T  cdv A outer s H E hr, fun ds μ Ξ Φ h => read_Marks_d_len ds μ Ξ Φ h⟩
/-- _law_marks_of_up_to_three -/
abbrev n_law_marks_of_up_to_three : List Str := ["names"]
theorem sc_law_marks_of_up_to_three : FnScope n_law_marks_of_up_to_three ["names"] (defScope s_law_marks_of_up_to_three) := ⟨rfl, rfl, rfl, by decide +kernel, rfl, by decide +kernel, by decide +kernel⟩
def B_law_marks_of_up_to_three (a : Adr) : TDS :=
  (dSeq (dIf (dTest (dOp (oEq false) (dBi bLen (dCons (dVar 0) dNil)) (dC (.int 0)))) (dRet (dCall (wMake a.C_Marks (w_Marks_d_init a)) dNil)) dNext) (dSeq (dIf (dTest (dOp (oEq false) (dBi bLen (dCons (dVar 0) dNil)) (dC (.int 1)))) (dRet (dCall (wMake a.C_Marks (w_Marks_d_init a)) (dCons (dOp oIx (dVar 0) (dC (.int 0))) dNil))) dNext) (dSeq (dIf (dTest (dOp (oEq false) (dBi bLen (dCons (dVar 0) dNil)) (dC (.int 2)))) (dRet (dCall (wMake a.C_Marks (w_Marks_d_init a)) (dCons (dOp oIx (dVar 0) (dC (.int 0))) (dCons (dOp oIx (dVar 0) (dC (.int 1))) dNil)))) dNext) (dRet (dCall (wMake a.C_Marks (w_Marks_d_init a)) (dCons (dOp oIx (dVar 0) (dC (.int 0))) (dCons (dOp oIx (dVar 0) (dC (.int 1))) (dCons (dOp oIx (dVar 0) (dC (.int 2))) dNil))))))))
theorem D_law_marks_of_up_to_three {P : Program} {w : World} {K : PySem.W.Frag} {mg : Str → Option Value} {base : Heap} {a : Adr} (T : Txt K mg a) (G_Marks_d_init : FnD P w K mg base 1 a.f_Marks_d_init (w_Marks_d_init a)) (cdv : Value) (A : Around) (outer : List PySem.Env) (s : Shared) (H : Hp) (E : XK) (hr : Room 2 (A.deeper (PyProof.Rows.envOfC "_law_marks_of_up_to_three" (defScope s_law_marks_of_up_to_three) s.heap.objs.size a.f_law_marks_of_up_to_three cdv))) :
    PSs (cxOf (L2.CX P w) P w K mg base n_law_marks_of_up_to_three "_law_marks_of_up_to_three" (defScope s_law_marks_of_up_to_three) a.f_law_marks_of_up_to_three cdv A outer s H E) (defBody s_law_marks_of_up_to_three) (tDS K (fun cls d _ H => E cls d H) (B_law_marks_of_up_to_three a)) := by
  have tk : Takes (cxOf (L2.CX P w) P w K mg base n_law_marks_of_up_to_three "_law_marks_of_up_to_three" (defScope s_law_marks_of_up_to_three) a.f_law_marks_of_up_to_three cdv A outer s H E) (fun cls d _ H => E cls d H) := takes_of rfl rfl rfl rfl
  exact (ss_cons (s_if (t_cmp (op_eqA hr) od_eq (e_bi call_len bd_len T.z_len (a_cons (e_var 0) a_nil)) e_int) (ss_one (s_ret (e_call0 (cal_class T.mk_Marks G_Marks_d_init (hr.mono (by decide)) tk) T.g_Marks T.mk_Marks.kp))) ss_nil) (ss_cons (s_if (t_cmp (op_eqA hr) od_eq (e_bi call_len bd_len T.z_len (a_cons (e_var 0) a_nil)) e_int) (ss_one (s_ret (e_call (cal_class T.mk_Marks G_Marks_d_init (hr.mono (by decide)) tk) T.g_Marks T.mk_Marks.kp (a_cons (e_ix (e_var 0) e_int) a_nil)))) ss_nil) (ss_cons (s_if (t_cmp (op_eqA hr) od_eq (e_bi call_len bd_len T.z_len (a_cons (e_var 0) a_nil)) e_int) (ss_one (s_ret (e_call (cal_class T.mk_Marks G_Marks_d_init (hr.mono (by decide)) tk) T.g_Marks T.mk_Marks.kp (a_cons (e_ix (e_var 0) e_int) (a_cons (e_ix (e_var 0) e_int) a_nil))))) ss_nil) (ss_one (s_ret (e_call (cal_class T.mk_Marks G_Marks_d_init (hr.mono (by decide)) tk) T.g_Marks T.mk_Marks.kp (a_cons (e_ix (e_var 0) e_int) (a_cons (e_ix (e_var 0) e_int) (a_cons (e_ix (e_var 0) e_int) a_nil)))))))))
theorem len_law_marks_of_up_to_three {a : Adr} {ds μ Ξ Φ} (h : w_law_marks_of_up_to_three a ds μ Ξ Φ) : ds.length = 1 := by obtain ⟨_, rfl, _⟩ := h; rfl
theorem read_law_marks_of_up_to_three {a : Adr} : ∀ ds μ Ξ Φ, w_law_marks_of_up_to_three a ds μ Ξ Φ → B_law_marks_of_up_to_three a { nx := fun _ μ' => Φ .non μ', rt := Φ } (startG n_law_marks_of_up_to_three ds) μ (fun _ => Ξ) := by
  rintro ds μ Ξ Φ ⟨xs, rfl, hz, h⟩
  unfold B_law_marks_of_up_to_three
  match xs, hz with
  | [], _ =>
    walk_at "d"
    refine ite_d (fun q => ?_) fun q => absurd rfl q
    walk_at "d"
    exact make_Marks (xs := []) (by decide) h
  | [x], _ =>
    walk_at "d"
    refine ite_d (fun q => absurd q (by simp [sL])) fun q => ?_
    walk_at "d"
    refine ite_d (fun q => ?_) fun q => absurd rfl q
    walk_at "d"
    refine oIx_items rfl rfl ?_
    walk_at "d"
    exact make_Marks (xs := [x]) (by simp) h
  | [x, y], _ =>
    walk_at "d"
    refine ite_d (fun q => absurd q (by simp [sL])) fun q => ?_
    walk_at "d"
    refine ite_d (fun q => absurd q (by simp [sL])) fun q => ?_
    walk_at "d"
    refine ite_d (fun q => ?_) fun q => absurd rfl q
    walk_at "d"
    refine oIx_items rfl rfl ?_
    walk_at "d"
    refine oIx_items rfl rfl ?_
    walk_at "d"
    exact make_Marks (xs := [x, y]) (by simp) h
  | [x, y, z], _ =>
    walk_at "d"
    refine ite_d (fun q => absurd q (by simp [sL])) fun q => ?_
    walk_at "d"
    refine ite_d (fun q => absurd q (by simp [sL])) fun q => ?_
    walk_at "d"
    refine ite_d (fun q => absurd q (by simp [sL])) fun q => ?_
    walk_at "d"
    refine oIx_items rfl rfl ?_
    walk_at "d"
    refine oIx_items rfl rfl ?_
    walk_at "d"
    refine oIx_items rfl rfl ?_
    walk_at "d"
    exact make_Marks (xs := [x, y, z]) (by simp) h
  | x :: y :: z :: u :: r, hz => exact absurd hz (by simp)
theorem ok_law_marks_of_up_to_three {P : Program} {w : World} {K : PySem.W.Frag} {mg : Str → Option Value} {base : Heap} {a : Adr} (T : Txt K mg a) (G_Marks_d_init : FnD P w K mg base 1 a.f_Marks_d_init (w_Marks_d_init a)) : FnD P w K mg base 3 a.f_law_marks_of_up_to_three (w_law_marks_of_up_to_three a) := by
  obtain ⟨fd, F⟩ := T.F_law_marks_of_up_to_three.ex
  exact fn_D F (F.binds (ps := ["names"]) fun _ _ _ _ _ _ us hl => match us, hl with | [_], _ => rfl) sc_law_marks_of_up_to_three (fun ds μ Ξ Φ h => len_law_marks_of_up_to_three h) fun cdv A outer s H E hr => ⟨B_law_marks_of_up_to_three a, D_law_marks_of_up_to_three T G_Marks_d_init cdv A outer s H E hr, fun ds μ Ξ Φ h => read_law_marks_of_up_to_three ds μ Ξ Φ h⟩
/-- _law_distinct -/
abbrev n_law_distinct : List Str := ["members", "found", "member"]
theorem sc_law_distinct : FnScope n_law_distinct ["members"] (defScope s_law_distinct) := ⟨rfl, rfl, rfl, by decide +kernel, rfl, by decide +kernel, by decide +kernel⟩
def B_law_distinct (a : Adr) : TDS :=
  (dSeq (dAsg (dLstM dNil) (gNm 1)) (dSeq (dFor (dIt (dVar 0)) (gNm 2) (dIf (dTest (dOp (oIn true) (dVar 2) (dVar 1))) (dDrop (dBm isLis mAppend (dVar 1) (dCons (dVar 2) dNil))) dNext)) (dRet (dFrz (dVar 1)))))
theorem D_law_distinct {P : Program} {w : World} {K : PySem.W.Frag} {mg : Str → Option Value} {base : Heap} {a : Adr} (T : Txt K mg a)  (cdv : Value) (A : Around) (outer : List PySem.Env) (s : Shared) (H : Hp) (E : XK) (hr : Room 0 (A.deeper (PyProof.Rows.envOfC "_law_distinct" (defScope s_law_distinct) s.heap.objs.size a.f_law_distinct cdv))) :
    PSs (cxOf (L2.CX P w) P w K mg base n_law_distinct "_law_distinct" (defScope s_law_distinct) a.f_law_distinct cdv A outer s H E) (defBody s_law_distinct) (tDS K (fun cls d _ H => E cls d H) (B_law_distinct a)) := by
  have tk : Takes (cxOf (L2.CX P w) P w K mg base n_law_distinct "_law_distinct" (defScope s_law_distinct) a.f_law_distinct cdv A outer s H E) (fun cls d _ H => E cls d H) := takes_of rfl rfl rfl rfl
  exact (ss_cons (s_set 1 sc_law_distinct.nd (e_lstM a_nil)) (ss_cons (s_for (passes_of rfl) rfl (i_seq (e_var 0)) (g_name 2 sc_law_distinct.nd) (ss_one (s_if (t_cmp op_notIn_seq od_in (e_var 2) (e_var 1)) (ss_one (s_expr (e_bm PySem.F.plainAttrs_list PySem.F.slot_list_append PySem.F.type_list_append mt_append md_append (e_var 1) (a_cons (e_var 2) a_nil)))) ss_nil))) (ss_one (s_ret (e_frz (e_var 1))))))
theorem len_law_distinct {a : Adr} {ds μ Ξ Φ} (h : w_law_distinct a ds μ Ξ Φ) : ds.length = 1 := by obtain ⟨_, rfl, _⟩ := h; rfl
theorem read_law_distinct {a : Adr} : ∀ ds μ Ξ Φ, w_law_distinct a ds μ Ξ Φ → B_law_distinct a { nx := fun _ μ' => Φ .non μ', rt := Φ } (startG n_law_distinct ds) μ (fun _ => Ξ) := by
  rintro ds μ Ξ Φ ⟨xs, rfl, hz, h⟩
  unfold B_law_distinct
  walk_at "d"
  refine ⟨sz_of (by decide), fun p hp => ?_⟩
  walk_at "d"
  refine ⟨fun i γ' μ' => i ≤ xs.length ∧ (∃ o, γ' = [some (.lst (sL xs)), some (.adr p), o]) ∧ μ' = updM μ p (.lst (sL (dd (xs.take i)))), ⟨Nat.zero_le _, ⟨none, rfl⟩, rfl⟩, fun _ _ _ _ => trivial, ?_, ?_⟩
  · rintro i d γ' μ' hd ⟨_, ⟨o, rfl⟩, rfl⟩
    rw [List.getElem?_map] at hd
    cases hx : xs[i]? with
    | none => rw [hx] at hd; cases hd
    | some x =>
      rw [hx] at hd
      cases hd
      have hi := (List.getElem?_eq_some_iff.mp hx).1
      have e1 : dd (xs.take (i + 1)) = if x ∈ dd (xs.take i) then dd (xs.take i) else dd (xs.take i) ++ [x] := by rw [List.take_succ, hx]; exact dd_snoc _ x
      walk_at "d"
      refine oNotIn_strs (items_adr updM_same) ?_
      walk_at "d"
      refine ite_nd (fun q => ?_) fun q => ?_
      · walk_at "d"
        refine ⟨isLis_adr updM_same, ?_⟩
        walk_at "d"
        have := dd_len (xs.take i)
        refine mAppend_i updM_same (sz_lt (by rw [List.length_map]; rw [List.length_take] at this; omega)) ⟨hi, ⟨_, rfl⟩, ?_⟩
        rw [updM_updM, e1, if_neg q, sL, sL, List.map_append]; rfl
      · walk_at "d"
        exact ⟨hi, ⟨_, rfl⟩, by rw [e1, if_pos q]⟩
  · rintro γ' μ' ⟨_, ⟨o, rfl⟩, rfl⟩
    have e0 : xs.take ((sL xs).length) = xs := by rw [List.length_map]; exact List.take_of_length_le (Nat.le_refl _)
    rw [e0]
    walk_at "d"
    refine frzE_l updM_same ?_
    rw [delM_updM hp]
    exact h
theorem ok_law_distinct {P : Program} {w : World} {K : PySem.W.Frag} {mg : Str → Option Value} {base : Heap} {a : Adr} (T : Txt K mg a)  : FnD P w K mg base 1 a.f_law_distinct (w_law_distinct a) := by
  obtain ⟨fd, F⟩ := T.F_law_distinct.ex
  exact fn_D F (F.binds (ps := ["members"]) fun _ _ _ _ _ _ us hl => match us, hl with | [_], _ => rfl) sc_law_distinct (fun ds μ Ξ Φ h => len_law_distinct h) fun cdv A outer s H E hr => ⟨B_law_distinct a, D_law_distinct T  cdv A outer s H E hr, fun ds μ Ξ Φ h => read_law_distinct ds μ Ξ Φ h⟩
/-- _law_alphabet -/
abbrev n_law_alphabet : List Str := ["names", "name"]
theorem sc_law_alphabet : FnScope n_law_alphabet ["names"] (defScope s_law_alphabet) := ⟨rfl, rfl, rfl, by decide +kernel, rfl, by decide +kernel, by decide +kernel⟩
def B_law_alphabet (a : Adr) : TDS :=
  (dRet (dBi bSorted (dCons (dLc (dIt (dCall (w_law_distinct a) (dCons (dVar 0) dNil))) (cNm 1) dYes (dBi bStr (dCons (dVar 1) dNil)) [1]) dNil)))
theorem D_law_alphabet {P : Program} {w : World} {K : PySem.W.Frag} {mg : Str → Option Value} {base : Heap} {a : Adr} (T : Txt K mg a) (G_law_distinct : FnD P w K mg base 1 a.f_law_distinct (w_law_distinct a)) (cdv : Value) (A : Around) (outer : List PySem.Env) (s : Shared) (H : Hp) (E : XK) (hr : Room 1 (A.deeper (PyProof.Rows.envOfC "_law_alphabet" (defScope s_law_alphabet) s.heap.objs.size a.f_law_alphabet cdv))) :
    PSs (cxOf (L2.CX P w) P w K mg base n_law_alphabet "_law_alphabet" (defScope s_law_alphabet) a.f_law_alphabet cdv A outer s H E) (defBody s_law_alphabet) (tDS K (fun cls d _ H => E cls d H) (B_law_alphabet a)) := by
  have tk : Takes (cxOf (L2.CX P w) P w K mg base n_law_alphabet "_law_alphabet" (defScope s_law_alphabet) a.f_law_alphabet cdv A outer s H E) (fun cls d _ H => E cls d H) := takes_of rfl rfl rfl rfl
  exact (ss_one (s_ret (e_bi cr_sortedS bd_sorted T.z_sorted (a_cons (e_lc (own := [("name", 1)]) rfl sc_law_alphabet.nd (ct_name 1) (i_seq (e_call (cal_def G_law_distinct (hr.mono (by decide)) tk) T.g_law_distinct T.F_law_distinct.kp (a_cons (e_var 0) a_nil))) (blkOk_by (own := [("name", 1)]) (N := n_law_alphabet) (sc := defScope s_law_alphabet) (by decide +kernel)) (fun _ _ _ _ _ => (pg_name (i := 1) sc_law_alphabet.nd rfl (by first | exact .inl rfl | exact .inr rfl))) (fun _ _ _ _ _ => ts_nil) (fun _ _ _ _ _ => (e_bt SkE.call_str_str bd_str T.z_str (a_cons (e_var 1) a_nil)))) a_nil))))
theorem len_law_alphabet {a : Adr} {ds μ Ξ Φ} (h : w_law_alphabet a ds μ Ξ Φ) : ds.length = 1 := by obtain ⟨_, rfl, _⟩ := h; rfl
theorem read_law_alphabet {a : Adr} : ∀ ds μ Ξ Φ, w_law_alphabet a ds μ Ξ Φ → B_law_alphabet a { nx := fun _ μ' => Φ .non μ', rt := Φ } (startG n_law_alphabet ds) μ (fun _ => Ξ) := by
  rintro ds μ Ξ Φ ⟨xs, rfl, hz, h⟩
  unfold B_law_alphabet
  walk_at "d"
  have := dd_len xs
  refine ⟨xs, rfl, hz, ?_⟩
  refine ⟨_, rfl, ?_⟩
  refine lc_pure D.str D.str (sz_of (by omega)) trivial (fun x _ U h => ?_) ?_
  · walk_at "d"
    exact h
  · walk_at "d"
    exact ⟨_, dd xs, rfl, rfl, by omega, fun ys hp hso => h ys (perm_set hp hso fun _ => Iff.rfl)⟩
theorem ok_law_alphabet {P : Program} {w : World} {K : PySem.W.Frag} {mg : Str → Option Value} {base : Heap} {a : Adr} (T : Txt K mg a) (G_law_distinct : FnD P w K mg base 1 a.f_law_distinct (w_law_distinct a)) : FnD P w K mg base 2 a.f_law_alphabet (w_law_alphabet a) := by
  obtain ⟨fd, F⟩ := T.F_law_alphabet.ex
  exact fn_D F (F.binds (ps := ["names"]) fun _ _ _ _ _ _ us hl => match us, hl with | [_], _ => rfl) sc_law_alphabet (fun ds μ Ξ Φ h => len_law_alphabet h) fun cdv A outer s H E hr => ⟨B_law_alphabet a, D_law_alphabet T G_law_distinct cdv A outer s H E hr, fun ds μ Ξ Φ h => read_law_alphabet ds μ Ξ Φ h⟩

/-- _law_due_names -/
abbrev n_law_due_names : List Str := ["way", "one", "two", "name"]
theorem sc_law_due_names : FnScope n_law_due_names ["way", "one", "two"] (defScope s_law_due_names) := ⟨rfl, rfl, rfl, by decide +kernel, rfl, by decide +kernel, by decide +kernel⟩
def B_law_due_names (a : Adr) : TDS :=
  (dSeq (dIf (dTest (dOp oLt (dVar 0) (dC (.int 2)))) (dRet (dOp oAdd (dVar 1) (dVar 2))) dNext) (dSeq (dIf (dTest (dOp oLt (dVar 0) (dC (.int 4)))) (dRet (dLc (dIt (dVar 1)) (cNm 3) (dTest (dOp (oIn false) (dVar 3) (dVar 2))) (dVar 3) [3])) dNext) (dSeq (dIf (dTest (dOp (oEq false) (dVar 0) (dC (.int 4)))) (dRet (dLc (dIt (dVar 1)) (cNm 3) (dTest (dOp (oIn true) (dVar 3) (dVar 2))) (dVar 3) [3])) dNext) (dSeq (dIf (dTest (dOp (oEq false) (dVar 0) (dC (.int 5)))) (dRet (dLc (dIt (dVar 2)) (cNm 3) (dTest (dOp (oIn true) (dVar 3) (dVar 1))) (dVar 3) [3])) dNext) (dRet (dIfE (dTest (dOp (oEq false) (dVar 0) (dC (.int 8)))) (dLst dNil) (dVar 1)))))))
theorem D_law_due_names {P : Program} {w : World} {K : PySem.W.Frag} {mg : Str → Option Value} {base : Heap} {a : Adr} (T : Txt K mg a)  (cdv : Value) (A : Around) (outer : List PySem.Env) (s : Shared) (H : Hp) (E : XK) (hr : Room 0 (A.deeper (PyProof.Rows.envOfC "_law_due_names" (defScope s_law_due_names) s.heap.objs.size a.f_law_due_names cdv))) :
    PSs (cxOf (L2.CX P w) P w K mg base n_law_due_names "_law_due_names" (defScope s_law_due_names) a.f_law_due_names cdv A outer s H E) (defBody s_law_due_names) (tDS K (fun cls d _ H => E cls d H) (B_law_due_names a)) := by
  have tk : Takes (cxOf (L2.CX P w) P w K mg base n_law_due_names "_law_due_names" (defScope s_law_due_names) a.f_law_due_names cdv A outer s H E) (fun cls d _ H => E cls d H) := takes_of rfl rfl rfl rfl
  exact (ss_cons (s_if (t_cmp op_lt od_lt (e_var 0) e_int) (ss_one (s_ret (e_bin op_addA od_add (e_var 1) (e_var 2)))) ss_nil) (ss_cons (s_if (t_cmp op_lt od_lt (e_var 0) e_int) (ss_one (s_ret (e_lc (own := [("name", 3)]) rfl sc_law_due_names.nd (ct_name 3) (i_seq (e_var 1)) (blkOk_by (own := [("name", 3)]) (N := n_law_due_names) (sc := defScope s_law_due_names) (by decide +kernel)) (fun _ _ _ _ _ => (pg_name (i := 3) sc_law_due_names.nd rfl (by first | exact .inl rfl | exact .inr rfl))) (fun _ _ _ _ _ => (ts_one (t_cmp op_in_seq od_in (e_var 3) (e_var 2)))) (fun _ _ _ _ _ => (e_var 3))))) ss_nil) (ss_cons (s_if (t_cmp (op_eqA hr) od_eq (e_var 0) e_int) (ss_one (s_ret (e_lc (own := [("name", 3)]) rfl sc_law_due_names.nd (ct_name 3) (i_seq (e_var 1)) (blkOk_by (own := [("name", 3)]) (N := n_law_due_names) (sc := defScope s_law_due_names) (by decide +kernel)) (fun _ _ _ _ _ => (pg_name (i := 3) sc_law_due_names.nd rfl (by first | exact .inl rfl | exact .inr rfl))) (fun _ _ _ _ _ => (ts_one (t_cmp op_notIn_seq od_in (e_var 3) (e_var 2)))) (fun _ _ _ _ _ => (e_var 3))))) ss_nil) (ss_cons (s_if (t_cmp (op_eqA hr) od_eq (e_var 0) e_int) (ss_one (s_ret (e_lc (own := [("name", 3)]) rfl sc_law_due_names.nd (ct_name 3) (i_seq (e_var 2)) (blkOk_by (own := [("name", 3)]) (N := n_law_due_names) (sc := defScope s_law_due_names) (by decide +kernel)) (fun _ _ _ _ _ => (pg_name (i := 3) sc_law_due_names.nd rfl (by first | exact .inl rfl | exact .inr rfl))) (fun _ _ _ _ _ => (ts_one (t_cmp op_notIn_seq od_in (e_var 3) (e_var 1)))) (fun _ _ _ _ _ => (e_var 3))))) ss_nil) (ss_one (s_ret (e_if (t_cmp (op_eqA hr) od_eq (e_var 0) e_int) (e_lst a_nil) (e_var 1))))))))
theorem len_law_due_names {a : Adr} {ds μ Ξ Φ} (h : w_law_due_names a ds μ Ξ Φ) : ds.length = 3 := by obtain ⟨_, _, _, rfl, _⟩ := h; rfl
theorem read_law_due_names {a : Adr} : ∀ ds μ Ξ Φ, w_law_due_names a ds μ Ξ Φ → B_law_due_names a { nx := fun _ μ' => Φ .non μ', rt := Φ } (startG n_law_due_names ds) μ (fun _ => Ξ) := by
  rintro ds μ Ξ Φ ⟨k, xs, ys, rfl, hz, h⟩
  unfold B_law_due_names
  walk_at "d"
  refine ite_d (fun q => ?_) fun q => ?_
  · walk_at "d"
    refine oAdd_lst (by simp only [List.length_map]; exact sz_of (by omega)) ?_
    rw [sL_app]
    exact h _ (fun z => by simp [dueP, q]) (by simp)
  walk_at "d"
  refine ite_d (fun q2 => ?_) fun q2 => ?_
  · walk_at "d"
    refine lc_filter D.str D.str (fun z => decide (z ∈ ys)) (sz_of (by omega)) trivial (fun x _ U h => ?_) ?_
    · walk_at "d"
      refine oIn_strs rfl ?_
      walk_at "d"
      refine ite_d (fun q => ?_) fun q => ?_
      · walk_at "d"
        rw [if_pos (by simpa using q)] at h; exact h
      · rw [if_neg (by simpa using q)] at h; exact h
    · have := List.length_filter_le (fun z => decide (z ∈ ys)) xs
      exact h _ (fun z => by simp [dueP, q, q2]) (by omega)
  walk_at "d"
  refine ite_d (fun q3 => ?_) fun q3 => ?_
  · walk_at "d"
    refine lc_filter D.str D.str (fun z => !decide (z ∈ ys)) (sz_of (by omega)) trivial (fun x _ U h => ?_) ?_
    · walk_at "d"
      refine oNotIn_strs rfl ?_
      walk_at "d"
      refine ite_nd (fun q => ?_) fun q => ?_
      · walk_at "d"
        rw [if_pos (by simpa using q)] at h; exact h
      · rw [if_neg (by simpa using q)] at h; exact h
    · have := List.length_filter_le (fun z => !decide (z ∈ ys)) xs
      exact h _ (fun z => by subst q3; simp [dueP]) (by omega)
  walk_at "d"
  refine ite_d (fun q4 => ?_) fun q4 => ?_
  · walk_at "d"
    refine lc_filter D.str D.str (fun z => !decide (z ∈ xs)) (sz_of (by omega)) trivial (fun x _ U h => ?_) ?_
    · walk_at "d"
      refine oNotIn_strs rfl ?_
      walk_at "d"
      refine ite_nd (fun q => ?_) fun q => ?_
      · walk_at "d"
        rw [if_pos (by simpa using q)] at h; exact h
      · rw [if_neg (by simpa using q)] at h; exact h
    · have := List.length_filter_le (fun z => !decide (z ∈ xs)) ys
      exact h _ (fun z => by subst q4; simp [dueP]) (by omega)
  walk_at "d"
  refine ite_d (fun q5 => ?_) fun q5 => ?_
  · walk_at "d"
    exact ⟨sz_of (by decide), h [] (fun z => by subst q5; simp [dueP]) (by simp)⟩
  · walk_at "d"
    exact h xs (fun z => by simp [dueP, q, q2, q3, q4, q5]) (by omega)
theorem ok_law_due_names {P : Program} {w : World} {K : PySem.W.Frag} {mg : Str → Option Value} {base : Heap} {a : Adr} (T : Txt K mg a)  : FnD P w K mg base 1 a.f_law_due_names (w_law_due_names a) := by
  obtain ⟨fd, F⟩ := T.F_law_due_names.ex
  exact fn_D F (F.binds (ps := ["way", "one", "two"]) fun _ _ _ _ _ _ us hl => match us, hl with | [_, _, _], _ => rfl) sc_law_due_names (fun ds μ Ξ Φ h => len_law_due_names h) fun cdv A outer s H E hr => ⟨B_law_due_names a, D_law_due_names T  cdv A outer s H E hr, fun ds μ Ξ Φ h => read_law_due_names ds μ Ξ Φ h⟩
/-- _law_given -/
abbrev n_law_given : List Str := ["way", "first", "second"]
theorem sc_law_given : FnScope n_law_given ["way", "first", "second"] (defScope s_law_given) := ⟨rfl, rfl, rfl, by decide +kernel, rfl, by decide +kernel, by decide +kernel⟩
def B_law_given (a : Adr) : TDS :=
  (dSeq (dIf (dTest (dOp (oEq false) (dVar 0) (dC (.int 0)))) (dRet (dOp (oOwnB a.C_Marks (w_Marks_d_or a)) (dVar 1) (dVar 2))) dNext) (dSeq (dIf (dTest (dOp (oEq false) (dVar 0) (dC (.int 1)))) (dRet (dOp (oOwnB a.C_Marks (w_Marks_d_or a)) (dVar 2) (dVar 1))) dNext) (dSeq (dIf (dTest (dOp (oEq false) (dVar 0) (dC (.int 2)))) (dRet (dOp (oOwnB a.C_Marks (w_Marks_d_and a)) (dVar 1) (dVar 2))) dNext) (dSeq (dIf (dTest (dOp (oEq false) (dVar 0) (dC (.int 3)))) (dRet (dOp (oOwnB a.C_Marks (w_Marks_d_and a)) (dVar 2) (dVar 1))) dNext) (dSeq (dIf (dTest (dOp (oEq false) (dVar 0) (dC (.int 4)))) (dRet (dOp (oOwnB a.C_Marks (w_Marks_d_sub a)) (dVar 1) (dVar 2))) dNext) (dSeq (dIf (dTest (dOp (oEq false) (dVar 0) (dC (.int 5)))) (dRet (dOp (oOwnB a.C_Marks (w_Marks_d_sub a)) (dVar 2) (dVar 1))) dNext) (dSeq (dIf (dTest (dOp (oEq false) (dVar 0) (dC (.int 6)))) (dRet (dOp (oOwnB a.C_Marks (w_Marks_d_or a)) (dVar 1) (dVar 1))) dNext) (dSeq (dIf (dTest (dOp (oEq false) (dVar 0) (dC (.int 7)))) (dRet (dOp (oOwnB a.C_Marks (w_Marks_d_and a)) (dVar 1) (dVar 1))) dNext) (dRet (dOp (oOwnB a.C_Marks (w_Marks_d_sub a)) (dVar 1) (dVar 1)))))))))))
theorem D_law_given {P : Program} {w : World} {K : PySem.W.Frag} {mg : Str → Option Value} {base : Heap} {a : Adr} (T : Txt K mg a) (G_Marks_d_or : FnD P w K mg base 3 a.f_Marks_d_or (w_Marks_d_or a)) (G_Marks_d_and : FnD P w K mg base 3 a.f_Marks_d_and (w_Marks_d_and a)) (G_Marks_d_sub : FnD P w K mg base 3 a.f_Marks_d_sub (w_Marks_d_sub a)) (cdv : Value) (A : Around) (outer : List PySem.Env) (s : Shared) (H : Hp) (E : XK) (hr : Room 3 (A.deeper (PyProof.Rows.envOfC "_law_given" (defScope s_law_given) s.heap.objs.size a.f_law_given cdv))) :
    PSs (cxOf (L2.CX P w) P w K mg base n_law_given "_law_given" (defScope s_law_given) a.f_law_given cdv A outer s H E) (defBody s_law_given) (tDS K (fun cls d _ H => E cls d H) (B_law_given a)) := by
  have tk : Takes (cxOf (L2.CX P w) P w K mg base n_law_given "_law_given" (defScope s_law_given) a.f_law_given cdv A outer s H E) (fun cls d _ H => E cls d H) := takes_of rfl rfl rfl rfl
  exact (ss_cons (s_if (t_cmp (op_eqA hr) od_eq (e_var 0) e_int) (ss_one (s_ret (e_bin (op_ownB T.m_Marks_d_or T.sf_Marks G_Marks_d_or (hr.mono (by decide))) od_ownB (e_var 1) (e_var 2)))) ss_nil) (ss_cons (s_if (t_cmp (op_eqA hr) od_eq (e_var 0) e_int) (ss_one (s_ret (e_bin (op_ownB T.m_Marks_d_or T.sf_Marks G_Marks_d_or (hr.mono (by decide))) od_ownB (e_var 2) (e_var 1)))) ss_nil) (ss_cons (s_if (t_cmp (op_eqA hr) od_eq (e_var 0) e_int) (ss_one (s_ret (e_bin (op_ownB T.m_Marks_d_and T.sf_Marks G_Marks_d_and (hr.mono (by decide))) od_ownB (e_var 1) (e_var 2)))) ss_nil) (ss_cons (s_if (t_cmp (op_eqA hr) od_eq (e_var 0) e_int) (ss_one (s_ret (e_bin (op_ownB T.m_Marks_d_and T.sf_Marks G_Marks_d_and (hr.mono (by decide))) od_ownB (e_var 2) (e_var 1)))) ss_nil) (ss_cons (s_if (t_cmp (op_eqA hr) od_eq (e_var 0) e_int) (ss_one (s_ret (e_bin (op_ownB T.m_Marks_d_sub T.sf_Marks G_Marks_d_sub (hr.mono (by decide))) od_ownB (e_var 1) (e_var 2)))) ss_nil) (ss_cons (s_if (t_cmp (op_eqA hr) od_eq (e_var 0) e_int) (ss_one (s_ret (e_bin (op_ownB T.m_Marks_d_sub T.sf_Marks G_Marks_d_sub (hr.mono (by decide))) od_ownB (e_var 2) (e_var 1)))) ss_nil) (ss_cons (s_if (t_cmp (op_eqA hr) od_eq (e_var 0) e_int) (ss_one (s_ret (e_bin (op_ownB T.m_Marks_d_or T.sf_Marks G_Marks_d_or (hr.mono (by decide))) od_ownB (e_var 1) (e_var 1)))) ss_nil) (ss_cons (s_if (t_cmp (op_eqA hr) od_eq (e_var 0) e_int) (ss_one (s_ret (e_bin (op_ownB T.m_Marks_d_and T.sf_Marks G_Marks_d_and (hr.mono (by decide))) od_ownB (e_var 1) (e_var 1)))) ss_nil) (ss_one (s_ret (e_bin (op_ownB T.m_Marks_d_sub T.sf_Marks G_Marks_d_sub (hr.mono (by decide))) od_ownB (e_var 1) (e_var 1))))))))))))
theorem len_law_given {a : Adr} {ds μ Ξ Φ} (h : w_law_given a ds μ Ξ Φ) : ds.length = 3 := by obtain ⟨_, _, _, _, _, rfl, _⟩ := h; rfl
theorem own2 {C : Addr} {op : (Str → Prop) → (Str → Prop) → Str → Prop} {s o : Addr} {xs ys : List Str} {μ : Mu} {Φ : KD} (hs : μ s = some (MkM C xs)) (ho : μ o = some (MkM C ys)) (hz : xs.length + ys.length < 64)
    (h : ∀ p zs, μ p = none → SetOf zs (op (· ∈ xs) (· ∈ ys)) → Φ (.adr p) (updM μ p (MkM C zs))) : oOwnB C (w2 C op) (.adr s) (.adr o) μ Φ := ⟨⟨_, ins_adr hs⟩, ⟨_, ins_adr ho⟩, s, o, xs, ys, rfl, hs, ho, hz, h⟩
theorem SetOf.to {ys : List Str} {p q : Str → Prop} (h : SetOf ys p) (e : ∀ z, p z ↔ q z) : SetOf ys q := ⟨h.1, fun z => (h.2 z).trans (e z)⟩
theorem read_law_given {a : Adr} : ∀ ds μ Ξ Φ, w_law_given a ds μ Ξ Φ → B_law_given a { nx := fun _ μ' => Φ .non μ', rt := Φ } (startG n_law_given ds) μ (fun _ => Ξ) := by
  rintro ds μ Ξ Φ ⟨k, s, o, xs, ys, rfl, k0, k9, hs, ho, hz, h⟩
  unfold B_law_given
  walk_at "d"
  refine ite_d (fun q => ?_) fun q0 => ?_
  · walk_at "d"
    exact own2 hs ho (by omega) fun p zs hp hz => h p zs hp (hz.to fun z => by subst q; simp [dueP, pOr])
  walk_at "d"
  refine ite_d (fun q => ?_) fun q1 => ?_
  · walk_at "d"
    exact own2 ho hs (by omega) fun p zs hp hz => h p zs hp (hz.to fun z => by subst q; simp [dueP, pOr, or_comm])
  walk_at "d"
  refine ite_d (fun q => ?_) fun q2 => ?_
  · walk_at "d"
    exact own2 hs ho (by omega) fun p zs hp hz => h p zs hp (hz.to fun z => by subst q; simp [dueP, pAnd])
  walk_at "d"
  refine ite_d (fun q => ?_) fun q3 => ?_
  · walk_at "d"
    exact own2 ho hs (by omega) fun p zs hp hz => h p zs hp (hz.to fun z => by subst q; simp [dueP, pAnd, and_comm])
  walk_at "d"
  refine ite_d (fun q => ?_) fun q4 => ?_
  · walk_at "d"
    exact own2 hs ho (by omega) fun p zs hp hz => h p zs hp (hz.to fun z => by subst q; simp [dueP, pSub])
  walk_at "d"
  refine ite_d (fun q => ?_) fun q5 => ?_
  · walk_at "d"
    exact own2 ho hs (by omega) fun p zs hp hz => h p zs hp (hz.to fun z => by subst q; simp [dueP, pSub])
  walk_at "d"
  refine ite_d (fun q => ?_) fun q6 => ?_
  · walk_at "d"
    exact own2 hs hs (by omega) fun p zs hp hz => h p zs hp (hz.to fun z => by subst q; simp [dueP, pOr])
  walk_at "d"
  refine ite_d (fun q => ?_) fun q7 => ?_
  · walk_at "d"
    exact own2 hs hs (by omega) fun p zs hp hz => h p zs hp (hz.to fun z => by subst q; simp [dueP, pAnd])
  walk_at "d"
  have q : k = 8 := by omega
  exact own2 hs hs (by omega) fun p zs hp hz => h p zs hp (hz.to fun z => by subst q; simp [dueP, pSub])
theorem ok_law_given {P : Program} {w : World} {K : PySem.W.Frag} {mg : Str → Option Value} {base : Heap} {a : Adr} (T : Txt K mg a) (G_Marks_d_or : FnD P w K mg base 3 a.f_Marks_d_or (w_Marks_d_or a)) (G_Marks_d_and : FnD P w K mg base 3 a.f_Marks_d_and (w_Marks_d_and a)) (G_Marks_d_sub : FnD P w K mg base 3 a.f_Marks_d_sub (w_Marks_d_sub a)) : FnD P w K mg base 4 a.f_law_given (w_law_given a) := by
  obtain ⟨fd, F⟩ := T.F_law_given.ex
  exact fn_D F (F.binds (ps := ["way", "first", "second"]) fun _ _ _ _ _ _ us hl => match us, hl with | [_, _, _], _ => rfl) sc_law_given (fun ds μ Ξ Φ h => len_law_given h) fun cdv A outer s H E hr => ⟨B_law_given a, D_law_given T G_Marks_d_or G_Marks_d_and G_Marks_d_sub cdv A outer s H E hr, fun ds μ Ξ Φ h => read_law_given ds μ Ξ Φ h⟩
/-- law -/
abbrev n_law : List Str := ["script", "tape", "pool", "one", "two", "more", "way", "first", "second", "due", "told", "again", "k"]
theorem sc_law : FnScope n_law ["script"] (defScope s_law) := ⟨rfl, rfl, rfl, by decide +kernel, rfl, by decide +kernel, by decide +kernel⟩
def B_law (a : Adr) : TDS :=
  (dSeq (dAsg (dCall (w_law_tape a) (dCons (dVar 0) dNil)) (gNm 1)) (dSeq (dAsg (dLc (dRng1 (dCons (dC (.int 8)) dNil)) (cNm 12) dYes (dCall (w_law_letters_name a) (dCons (dVar 1) dNil)) [12]) (gNm 2)) (dSeq (dAsg (dLc (dRng1 (dCons (dC (.int 8)) dNil)) (cNm 12) dYes (dOp oIx (dVar 2) (dCall (w_law_pick a) (dCons (dVar 1) (dCons (dC (.int 8)) dNil)))) [12]) (gNm 3)) (dSeq (dAsg (dLc (dRng1 (dCons (dCall (w_law_pick a) (dCons (dVar 1) (dCons (dC (.int 4)) dNil))) dNil)) (cNm 12) dYes (dOp oIx (dVar 2) (dCall (w_law_pick a) (dCons (dVar 1) (dCons (dC (.int 8)) dNil)))) [12]) (gNm 4)) (dSeq (dIf (dTest (dOp (oEq false) (dCall (w_law_pick a) (dCons (dVar 1) (dCons (dC (.int 2)) dNil))) (dC (.int 1)))) (dAsg (dSl (dVar 3) dNoPart (dPart (dC (.int 3)))) (gNm 4)) dNext) (dSeq (dAsg (dCall (w_law_letters_name a) (dCons (dVar 1) dNil)) (gNm 5)) (dSeq (dAsg (dCall (w_law_pick a) (dCons (dVar 1) (dCons (dC (.int 9)) dNil))) (gNm 6)) (dSeq (dAsg (dCall (wMake a.C_Marks (w_Marks_d_init a)) (dCons (dOp oIx (dVar 3) (dC (.int 0))) (dCons (dOp oIx (dVar 3) (dC (.int 1))) (dCons (dOp oIx (dVar 3) (dC (.int 2))) (dCons (dOp oIx (dVar 3) (dC (.int 3))) (dCons (dOp oIx (dVar 3) (dC (.int 4))) (dCons (dOp oIx (dVar 3) (dC (.int 5))) (dCons (dOp oIx (dVar 3) (dC (.int 6))) (dCons (dOp oIx (dVar 3) (dC (.int 7))) dNil))))))))) (gNm 7)) (dSeq (dAsg (dCall (w_law_marks_of_up_to_three a) (dCons (dVar 4) dNil)) (gNm 8)) (dSeq (dAsg (dCall (w_law_due_names a) (dCons (dVar 6) (dCons (dVar 3) (dCons (dVar 4) dNil)))) (gNm 9)) (dSeq (dAsg (dCall (w_law_given a) (dCons (dVar 6) (dCons (dVar 7) (dCons (dVar 8) dNil)))) (gNm 10)) (dSeq (dIf (dOr (dNot (dTru (dBi (bIsi a.C_Marks a.C_Marks true) (dCons (dVar 10) (dCons (dC (.adr a.C_Marks)) dNil))))) (dOr (dTest (dOp (oEq true) (dBi (bOwnList a.C_Marks "names") (dCons (dVar 10) dNil)) (dCall (w_law_alphabet a) (dCons (dVar 9) dNil)))) (dTest (dOp (oEq true) (dBi (bOwnLen a.C_Marks (w_Marks_d_len a)) (dCons (dVar 10) dNil)) (dBi bLen (dCons (dCall (w_law_distinct a) (dCons (dVar 9) dNil)) dNil)))))) (dRet (dC (.bl false))) dNext) (dSeq (dAug 10 (dCall (wMake a.C_Marks (w_Marks_d_init a)) (dCons (dVar 5) dNil)) (oOwnI a.C_Marks (w_Marks_d_ior a))) (dSeq (dIf (dTest (dOp (oEq true) (dBi (bOwnList a.C_Marks "names") (dCons (dVar 10) dNil)) (dCall (w_law_alphabet a) (dCons (dOp oAdd (dVar 9) (dLst (dCons (dVar 5) dNil))) dNil)))) (dRet (dC (.bl false))) dNext) (dSeq (dIf (dOr (dTest (dOp (oEq true) (dBi (bOwnList a.C_Marks "names") (dCons (dVar 7) dNil)) (dCall (w_law_alphabet a) (dCons (dVar 3) dNil)))) (dTest (dOp (oEq true) (dBi (bOwnList a.C_Marks "names") (dCons (dVar 8) dNil)) (dCall (w_law_alphabet a) (dCons (dVar 4) dNil))))) (dRet (dC (.bl false))) dNext) (dSeq (dAsg (dCall (w_law_given a) (dCons (dVar 6) (dCons (dVar 7) (dCons (dVar 8) dNil)))) (gNm 11)) (dSeq (dAug 7 (dCall (wMake a.C_Marks (w_Marks_d_init a)) (dCons (dVar 5) dNil)) (oOwnI a.C_Marks (w_Marks_d_ior a))) (dSeq (dAug 8 (dCall (wMake a.C_Marks (w_Marks_d_init a)) (dCons (dVar 5) dNil)) (oOwnI a.C_Marks (w_Marks_d_ior a))) (dSeq (dIf (dOr (dTest (dOp (oEq true) (dBi (bOwnList a.C_Marks "names") (dCons (dVar 7) dNil)) (dCall (w_law_alphabet a) (dCons (dOp oAdd (dVar 3) (dLst (dCons (dVar 5) dNil))) dNil)))) (dTest (dOp (oEq true) (dBi (bOwnList a.C_Marks "names") (dCons (dVar 8) dNil)) (dCall (w_law_alphabet a) (dCons (dOp oAdd (dVar 4) (dLst (dCons (dVar 5) dNil))) dNil))))) (dRet (dC (.bl false))) dNext) (dRet (dOp (oEq false) (dBi (bOwnList a.C_Marks "names") (dCons (dVar 11) dNil)) (dCall (w_law_alphabet a) (dCons (dVar 9) dNil)))))))))))))))))))))))
theorem D_law {P : Program} {w : World} {K : PySem.W.Frag} {mg : Str → Option Value} {base : Heap} {a : Adr} (T : Txt K mg a) (G_law_tape : FnD P w K mg base 1 a.f_law_tape (w_law_tape a)) (G_law_letters_name : FnD P w K mg base 2 a.f_law_letters_name (w_law_letters_name a)) (G_law_pick : FnD P w K mg base 1 a.f_law_pick (w_law_pick a)) (G_Marks_d_init : FnD P w K mg base 1 a.f_Marks_d_init (w_Marks_d_init a)) (G_law_marks_of_up_to_three : FnD P w K mg base 3 a.f_law_marks_of_up_to_three (w_law_marks_of_up_to_three a)) (G_law_due_names : FnD P w K mg base 1 a.f_law_due_names (w_law_due_names a)) (G_law_given : FnD P w K mg base 4 a.f_law_given (w_law_given a)) (G_Marks_d_len : FnD P w K mg base 1 a.f_Marks_d_len (w_Marks_d_len a)) (G_law_alphabet : FnD P w K mg base 2 a.f_law_alphabet (w_law_alphabet a)) (G_law_distinct : FnD P w K mg base 1 a.f_law_distinct (w_law_distinct a)) (G_Marks_d_ior : FnD P w K mg base 1 a.f_Marks_d_ior (w_Marks_d_ior a)) (GI_Marks : FnR P w K mg base (L2.CX P w) 1 a.f_Marks_d_iter (spIterF K a.C_Marks "names")) (GL_Marks : FnR P w K mg base (L2.CX P w) 1 a.f_Marks_d_len (spLenF K a.C_Marks "names")) (cdv : Value) (A : Around) (outer : List PySem.Env) (s : Shared) (H : Hp) (E : XK) (hr : Room 4 (A.deeper (PyProof.Rows.envOfC "law" (defScope s_law) s.heap.objs.size a.f_law cdv))) :
    PSs (cxOf (L2.CX P w) P w K mg base n_law "law" (defScope s_law) a.f_law cdv A outer s H E) (defBody s_law) (tDS K (fun cls d _ H => E cls d H) (B_law a)) := by
  have tk : Takes (cxOf (L2.CX P w) P w K mg base n_law "law" (defScope s_law) a.f_law cdv A outer s H E) (fun cls d _ H => E cls d H) := takes_of rfl rfl rfl rfl
  exact (ss_cons (s_set 1 sc_law.nd (e_call (cal_def G_law_tape (hr.mono (by decide)) tk) T.g_law_tape T.F_law_tape.kp (a_cons (e_var 0) a_nil))) (ss_cons (s_set 2 sc_law.nd (e_lc (own := [("k", 12)]) rfl sc_law.nd (ct_name 12) (i_range1 T.z_range (a_cons e_int a_nil)) (blkOk_by (own := [("k", 12)]) (N := n_law) (sc := defScope s_law) (by decide +kernel)) (fun _ _ _ _ _ => (pg_name (i := 12) sc_law.nd rfl (by first | exact .inl rfl | exact .inr rfl))) (fun _ _ _ _ _ => ts_nil) (fun _ _ _ _ _ => (e_call (cal_def G_law_letters_name (hr.mono (by decide)) takes0) T.g_law_letters_name T.F_law_letters_name.kp (a_cons (e_var 1) a_nil))))) (ss_cons (s_setLc (own := [("k", 12)]) 3 rfl sc_law.nd (ct_name 12) (i_range1 T.z_range (a_cons e_int a_nil)) (blkOk_by (own := [("k", 12)]) (N := n_law) (sc := defScope s_law) (by decide +kernel)) (fun _ _ _ _ _ => (pg_name (i := 12) sc_law.nd rfl (by first | exact .inl rfl | exact .inr rfl))) (fun _ _ _ _ _ => ts_nil) (fun _ _ _ _ _ => (e_ix (e_var 2) (e_call (cal_def G_law_pick (hr.mono (by decide)) takes0) T.g_law_pick T.F_law_pick.kp (a_cons (e_var 1) (a_cons e_int a_nil)))))) (ss_cons (s_setLc (own := [("k", 12)]) 4 rfl sc_law.nd (ct_name 12) (i_range1 T.z_range (a_cons (e_call (cal_def G_law_pick (hr.mono (by decide)) tk) T.g_law_pick T.F_law_pick.kp (a_cons (e_var 1) (a_cons e_int a_nil))) a_nil)) (blkOk_by (own := [("k", 12)]) (N := n_law) (sc := defScope s_law) (by decide +kernel)) (fun _ _ _ _ _ => (pg_name (i := 12) sc_law.nd rfl (by first | exact .inl rfl | exact .inr rfl))) (fun _ _ _ _ _ => ts_nil) (fun _ _ _ _ _ => (e_ix (e_var 2) (e_call (cal_def G_law_pick (hr.mono (by decide)) takes0) T.g_law_pick T.F_law_pick.kp (a_cons (e_var 1) (a_cons e_int a_nil)))))) (ss_cons (s_if (t_cmp (op_eqA hr) od_eq (e_call (cal_def G_law_pick (hr.mono (by decide)) tk) T.g_law_pick T.F_law_pick.kp (a_cons (e_var 1) (a_cons e_int a_nil))) e_int) (ss_one (s_set 4 sc_law.nd (e_sl (e_var 3) o_none (o_some e_int)))) ss_nil) (ss_cons (s_set 5 sc_law.nd (e_call (cal_def G_law_letters_name (hr.mono (by decide)) tk) T.g_law_letters_name T.F_law_letters_name.kp (a_cons (e_var 1) a_nil))) (ss_cons (s_set 6 sc_law.nd (e_call (cal_def G_law_pick (hr.mono (by decide)) tk) T.g_law_pick T.F_law_pick.kp (a_cons (e_var 1) (a_cons e_int a_nil)))) (ss_cons (s_set 7 sc_law.nd (e_call (cal_class T.mk_Marks G_Marks_d_init (hr.mono (by decide)) tk) T.g_Marks T.mk_Marks.kp (a_cons (e_ix (e_var 3) e_int) (a_cons (e_ix (e_var 3) e_int) (a_cons (e_ix (e_var 3) e_int) (a_cons (e_ix (e_var 3) e_int) (a_cons (e_ix (e_var 3) e_int) (a_cons (e_ix (e_var 3) e_int) (a_cons (e_ix (e_var 3) e_int) (a_cons (e_ix (e_var 3) e_int) a_nil)))))))))) (ss_cons (s_set 8 sc_law.nd (e_call (cal_def G_law_marks_of_up_to_three (hr.mono (by decide)) tk) T.g_law_marks_of_up_to_three T.F_law_marks_of_up_to_three.kp (a_cons (e_var 4) a_nil))) (ss_cons (s_set 9 sc_law.nd (e_call (cal_def G_law_due_names (hr.mono (by decide)) tk) T.g_law_due_names T.F_law_due_names.kp (a_cons (e_var 6) (a_cons (e_var 3) (a_cons (e_var 4) a_nil))))) (ss_cons (s_set 10 sc_law.nd (e_call (cal_def G_law_given (hr.mono (by decide)) tk) T.g_law_given T.F_law_given.kp (a_cons (e_var 6) (a_cons (e_var 7) (a_cons (e_var 8) a_nil))))) (ss_cons (s_if (PW.pt (w_or (t_not (t_tru (e_bi call_isi (bd_isi T.o_Marks T.i_Marks_Marks) T.z_isinstance (a_cons (e_var 10) (a_cons (e_gref T.g_Marks) a_nil))))) (w_or (t_cmp (op_neA hr) od_ne (e_bt (call_ownList (n := 1) T.m_Marks_d_iter T.m_Marks_d_len GI_Marks GL_Marks rfl (hr.mono (by decide))) bd_ownList T.z_list (a_cons (e_var 10) a_nil)) (e_call (cal_def G_law_alphabet (hr.mono (by decide)) tk) T.g_law_alphabet T.F_law_alphabet.kp (a_cons (e_var 9) a_nil))) (w_or1 (t_cmp (op_neA hr) od_ne (e_bi (call_ownLen T.m_Marks_d_len G_Marks_d_len (hr.mono (by decide))) bd_ownLen T.z_len (a_cons (e_var 10) a_nil)) (e_bi call_len bd_len T.z_len (a_cons (e_call (cal_def G_law_distinct (hr.mono (by decide)) tk) T.g_law_distinct T.F_law_distinct.kp (a_cons (e_var 9) a_nil)) a_nil))))))) (ss_one (s_ret e_bl)) ss_nil) (ss_cons (s_aug 10 sc_law.nd (in_ownI T.m_Marks_d_ior T.sf_Marks G_Marks_d_ior (hr.mono (by decide))) od_ownI (e_call (cal_class T.mk_Marks G_Marks_d_init (hr.mono (by decide)) tk) T.g_Marks T.mk_Marks.kp (a_cons (e_var 5) a_nil))) (ss_cons (s_if (t_cmp (op_neA hr) od_ne (e_bt (call_ownList (n := 1) T.m_Marks_d_iter T.m_Marks_d_len GI_Marks GL_Marks rfl (hr.mono (by decide))) bd_ownList T.z_list (a_cons (e_var 10) a_nil)) (e_call (cal_def G_law_alphabet (hr.mono (by decide)) tk) T.g_law_alphabet T.F_law_alphabet.kp (a_cons (e_bin op_addA od_add (e_var 9) (e_lst (a_cons (e_var 5) a_nil))) a_nil))) (ss_one (s_ret e_bl)) ss_nil) (ss_cons (s_if (PW.pt (w_or (t_cmp (op_neA hr) od_ne (e_bt (call_ownList (n := 1) T.m_Marks_d_iter T.m_Marks_d_len GI_Marks GL_Marks rfl (hr.mono (by decide))) bd_ownList T.z_list (a_cons (e_var 7) a_nil)) (e_call (cal_def G_law_alphabet (hr.mono (by decide)) tk) T.g_law_alphabet T.F_law_alphabet.kp (a_cons (e_var 3) a_nil))) (w_or1 (t_cmp (op_neA hr) od_ne (e_bt (call_ownList (n := 1) T.m_Marks_d_iter T.m_Marks_d_len GI_Marks GL_Marks rfl (hr.mono (by decide))) bd_ownList T.z_list (a_cons (e_var 8) a_nil)) (e_call (cal_def G_law_alphabet (hr.mono (by decide)) tk) T.g_law_alphabet T.F_law_alphabet.kp (a_cons (e_var 4) a_nil)))))) (ss_one (s_ret e_bl)) ss_nil) (ss_cons (s_set 11 sc_law.nd (e_call (cal_def G_law_given (hr.mono (by decide)) tk) T.g_law_given T.F_law_given.kp (a_cons (e_var 6) (a_cons (e_var 7) (a_cons (e_var 8) a_nil))))) (ss_cons (s_aug 7 sc_law.nd (in_ownI T.m_Marks_d_ior T.sf_Marks G_Marks_d_ior (hr.mono (by decide))) od_ownI (e_call (cal_class T.mk_Marks G_Marks_d_init (hr.mono (by decide)) tk) T.g_Marks T.mk_Marks.kp (a_cons (e_var 5) a_nil))) (ss_cons (s_aug 8 sc_law.nd (in_ownI T.m_Marks_d_ior T.sf_Marks G_Marks_d_ior (hr.mono (by decide))) od_ownI (e_call (cal_class T.mk_Marks G_Marks_d_init (hr.mono (by decide)) tk) T.g_Marks T.mk_Marks.kp (a_cons (e_var 5) a_nil))) (ss_cons (s_if (PW.pt (w_or (t_cmp (op_neA hr) od_ne (e_bt (call_ownList (n := 1) T.m_Marks_d_iter T.m_Marks_d_len GI_Marks GL_Marks rfl (hr.mono (by decide))) bd_ownList T.z_list (a_cons (e_var 7) a_nil)) (e_call (cal_def G_law_alphabet (hr.mono (by decide)) tk) T.g_law_alphabet T.F_law_alphabet.kp (a_cons (e_bin op_addA od_add (e_var 3) (e_lst (a_cons (e_var 5) a_nil))) a_nil))) (w_or1 (t_cmp (op_neA hr) od_ne (e_bt (call_ownList (n := 1) T.m_Marks_d_iter T.m_Marks_d_len GI_Marks GL_Marks rfl (hr.mono (by decide))) bd_ownList T.z_list (a_cons (e_var 8) a_nil)) (e_call (cal_def G_law_alphabet (hr.mono (by decide)) tk) T.g_law_alphabet T.F_law_alphabet.kp (a_cons (e_bin op_addA od_add (e_var 4) (e_lst (a_cons (e_var 5) a_nil))) a_nil)))))) (ss_one (s_ret e_bl)) ss_nil) (ss_one (s_ret (e_cmp (op_eqA hr) od_eq (e_bt (call_ownList (n := 1) T.m_Marks_d_iter T.m_Marks_d_len GI_Marks GL_Marks rfl (hr.mono (by decide))) bd_ownList T.z_list (a_cons (e_var 11) a_nil)) (e_call (cal_def G_law_alphabet (hr.mono (by decide)) tk) T.g_law_alphabet T.F_law_alphabet.kp (a_cons (e_var 9) a_nil))))))))))))))))))))))))
theorem setOf_one {xs ys : List Str} {p q : Str → Prop} (h1 : SetOf xs p) (h2 : SetOf ys q) (e : ∀ z, p z ↔ q z) : xs = ys := srt_one h1.1 h2.1 fun z => (h1.2 z).trans ((e z).trans (h2.2 z).symm)
theorem nd_le : ∀ {xs ys : List Str}, xs.Nodup → (∀ z ∈ xs, z ∈ ys) → xs.length ≤ ys.length
  | [], ys, _, _ => Nat.zero_le _
  | x :: xs, ys, nd, h => by
    have nd2 := List.nodup_cons.mp nd
    have hx := h x List.mem_cons_self
    have := nd_le (xs := xs) (ys := ys.erase x) nd2.2 fun z hz => by
      refine (List.mem_erase_of_ne (fun e => ?_)).mpr (h z (List.mem_cons_of_mem _ hz))
      subst e; exact nd2.1 hz
    rw [List.length_erase_of_mem hx] at this
    have : 0 < ys.length := List.length_pos_of_mem hx
    rw [List.length_cons]; omega
theorem nd_len {xs ys : List Str} (h1 : xs.Nodup) (h2 : ys.Nodup) (e : ∀ z, z ∈ xs ↔ z ∈ ys) : xs.length = ys.length := Nat.le_antisymm (nd_le h1 fun z => (e z).mp) (nd_le h2 fun z => (e z).mpr)
theorem SetOf.len {xs ys : List Str} {p : Str → Prop} (h : SetOf xs p) (e : ∀ z, p z → z ∈ ys) : xs.length ≤ ys.length := nd_le h.1.nodup fun z hz => e z ((h.2 z).mp hz)
theorem eight {xs : List Str} (h : xs.length = 8) : ∃ x0 x1 x2 x3 x4 x5 x6 x7, xs = [x0, x1, x2, x3, x4, x5, x6, x7] := by
  match xs, h with
  | [a, b, c, d, e, f, g, i], _ => exact ⟨a, b, c, d, e, f, g, i, rfl⟩
theorem keep {μ : Mu} {p a : Addr} {o m : MO} (hp : μ p = none) (h : μ a = some m) : updM μ p o a = some m := upd_at (mu_ne h hp) h
theorem list_Marks {C : Addr} {μ : Mu} {s : Addr} {xs : List Str} {Φ : KD} (h : μ s = some (MkM C xs)) (hz : xs.length < 64) (k : Φ (.lst (sL xs)) μ) : bOwnList C "names" [.adr s] μ Φ := ⟨_, _, _, _, rfl, ins_adr h, rfl, rfl, sz_lt (by rw [List.length_map]; omega), k⟩
theorem lenM {a : Adr} {μ : Mu} {s : Addr} {xs : List Str} {Φ : KD} (h : μ s = some (MkM a.C_Marks xs)) (hz : xs.length < 64) (k : Φ (.int xs.length) μ) : bOwnLen a.C_Marks (w_Marks_d_len a) [.adr s] μ Φ := ⟨_, _, rfl, ins_adr h, s, xs, rfl, h, _, rfl, by omega, by omega, k⟩
theorem ne_same {xs ys : List Str} {μ : Mu} {Φ : KD} (e : xs = ys) (h1 : ∀ x ∈ ys, Nm x) (h : Φ (.bl false) μ) : oEq true (.lst (sL xs)) (.lst (sL ys)) μ Φ := by
  subst e
  exact oNe_strs (fun x hx => (h1 x hx).ok) (fun x hx => (h1 x hx).ok) (by rw [decide_eq_true rfl]; exact h)
theorem eq_same {xs ys : List Str} {μ : Mu} {Φ : KD} (e : xs = ys) (h1 : ∀ x ∈ ys, Nm x) (h : Φ (.bl true) μ) : oEq false (.lst (sL xs)) (.lst (sL ys)) μ Φ := by
  subst e
  exact oEq_strs (fun x hx => (h1 x hx).ok) (fun x hx => (h1 x hx).ok) (by rw [decide_eq_true rfl]; exact h)
theorem ior_Marks {a : Adr} {μ : Mu} {s o : Addr} {xs ys : List Str} {Φ : KD} (hs : μ s = some (MkM a.C_Marks xs)) (ho : μ o = some (MkM a.C_Marks ys)) (h1 : Srt xs) (h2 : Srt ys) (hz : xs.length + ys.length < 64)
    (h : ∀ zs, SetOf zs (pOr (· ∈ xs) (· ∈ ys)) → Φ (.adr s) (updM μ s (MkM a.C_Marks zs))) : oOwnI a.C_Marks (w_Marks_d_ior a) (.adr s) (.adr o) μ Φ := ⟨⟨_, ins_adr hs⟩, s, o, xs, ys, rfl, hs, ho, h1, h2, hz, h⟩
theorem dueP_to {k : Int} {p q p' q' : Str → Prop} (h1 : ∀ z, p z ↔ p' z) (h2 : ∀ z, q z ↔ q' z) (z : Str) : dueP k p q z ↔ dueP k p' q' z := by
  unfold dueP
  split
  · rw [h1, h2]
  · split
    · rw [h1, h2]
    · split
      · rw [h1, h2]
      · split
        · rw [h1, h2]
        · split
          · exact Iff.rfl
          · exact h1 z
theorem dueP_of {k : Int} {p q : Str → Prop} {z : Str} (h : dueP k p q z) : p z ∨ q z := by
  unfold dueP at h
  repeat' split at h
  · exact h
  · exact .inl h.1
  · exact .inl h.1
  · exact .inr h.1
  · exact h.elim
  · exact .inl h
theorem cutD_take {xs : List Str} (h : xs.length = 8) : cutD (sL xs) none (some 3) = sL (xs.take 3) := by
  obtain ⟨x0, x1, x2, x3, x4, x5, x6, x7, rfl⟩ := eight h
  rfl
theorem alph {a : Adr} {xs : List Str} {μ : Mu} {Ξ : XF} {Φ : KD} (hz : xs.length < 64) (h : ∀ ys, SetOf ys (· ∈ xs) → Φ (.lst (sL ys)) μ) : w_law_alphabet a [.lst (sL xs)] μ Ξ Φ := ⟨xs, rfl, hz, h⟩
theorem names_of {ys : List Str} {p : Str → Prop} (h : SetOf ys p) (hn : ∀ x, p x → Nm x) : ∀ x ∈ ys, Nm x := fun x hx => hn x ((h.2 x).mp hx)
theorem read_law {a : Adr} : ∀ ds μ Ξ Φ, w_law a ds μ Ξ Φ → B_law a { nx := fun _ μ' => Φ .non μ', rt := Φ } (startG n_law ds) μ (fun _ => Ξ) := by
  rintro ds μ Ξ Φ ⟨ns, hl, rfl, hμ, h⟩
  unfold B_law
  walk_at "d"
  refine ⟨ns, hl, rfl, fun tp m htp hm => ?_⟩
  walk_at "d"
  refine ⟨8, rfl, by omega, by omega, ?_⟩
  refine lc_map D.str Nm (fun μ' => ∃ m, IsTape m ∧ μ' = updM μ tp m) (sz_of (by decide)) ⟨m, hm, rfl⟩ (fun _ _ => trivial) ?_ ?_
  · rintro i d μ' hd ⟨m1, hm1, rfl⟩ U hU
    walk_at "d"
    refine ⟨tp, m1, rfl, updM_same, hm1, fun x m2 hx hm2 => ?_⟩
    exact hU x _ hx ⟨m2, hm2, updM_updM⟩
  clear hm m
  rintro pool μ' hpl hp ⟨m, hm, rfl⟩
  have hpl : pool.length = 8 := hpl
  walk_at "d"
  have pick : ∀ {i : Nat} {d : D} {μ' : Mu}, (∃ m, IsTape m ∧ μ' = updM μ tp m) → ∀ U : D → Mu → Prop, (∀ x μ2, Nm x → (∃ m, IsTape m ∧ μ2 = updM μ tp m) → U (.str x) μ2) → ∀ Ξ : XF, w_law_pick a [.adr tp, .int 8] μ' Ξ fun d μ' => oIx (.lst (sL pool)) d μ' U := by
    rintro i d μ' ⟨m1, hm1, rfl⟩ U hU Ξ
    refine ⟨tp, m1, 8, rfl, updM_same, hm1, by omega, by omega, fun r m2 r0 r1 hm2 => ?_⟩
    obtain ⟨x, hx, _, hi⟩ := atI_map (f := D.str) r0 (by rw [hpl]; exact r1)
    refine oIx_items rfl hi ?_
    exact hU x _ (hp x hx) ⟨m2, hm2, updM_updM⟩
  refine ⟨8, rfl, by omega, by omega, ?_⟩
  refine lc_map D.str Nm (fun μ' => ∃ m, IsTape m ∧ μ' = updM μ tp m) (sz_of (by decide)) ⟨m, hm, rfl⟩ (fun _ _ => trivial) ?_ ?_
  · intro i d μ' hd hM U hU
    walk_at "d"
    exact pick (i := i) (d := d) hM U hU _
  clear hm m
  rintro one μ' h1l h1 ⟨m, hm, rfl⟩
  have h1l : one.length = 8 := h1l
  walk_at "d"
  refine ⟨tp, m, 4, rfl, updM_same, hm, by omega, by omega, fun r m' r0 r1 hm' => ?_⟩
  rw [updM_updM]
  clear hm m
  walk_at "d"
  refine ⟨r, rfl, by omega, by omega, ?_⟩
  refine lc_map D.str Nm (fun μ' => ∃ m, IsTape m ∧ μ' = updM μ tp m) (by simp only [rngD, List.length_map, List.length_range]; exact sz_of (by omega)) ⟨m', hm', rfl⟩ (fun _ _ => trivial) ?_ ?_
  · intro i d μ' hd hM U hU
    walk_at "d"
    exact pick (i := i) (d := d) hM U hU _
  clear hm' m'
  rintro two0 μ' h2l h2 ⟨m, hm, rfl⟩
  have h2l : two0.length ≤ 3 := by rw [h2l]; simp [rngD]; omega
  clear pick
  refine dSeq_to (fun γ' μ' => ∃ two m, γ' = [some (.fro (ns.map D.int)), some (.adr tp), some (.lst (sL pool)), some (.lst (sL one)), some (.lst (sL two)), none, none, none, none, none, none, none, none] ∧ two.length ≤ 3 ∧ (∀ x ∈ two, Nm x) ∧ IsTape m ∧ μ' = updM μ tp m) ?_ fun U hU => ?_
  · clear h2 h2l hm m
    rintro γ' μ' ⟨two, m, rfl, h2l, h2, hm, rfl⟩
    walk_at "d"
    refine ⟨tp, m, rfl, updM_same, hm, fun more m2 hmore hm2 => ?_⟩
    rw [updM_updM]
    clear hm m
    walk_at "d"
    refine ⟨tp, m2, 9, rfl, updM_same, hm2, by omega, by omega, fun k m3 k0 k9 hm3 => ?_⟩
    rw [updM_updM]
    clear hm2 m2
    generalize hμ1 : updM μ tp m3 = μ1
    clear hμ1
    walk_at "d"
    obtain ⟨x0, x1, x2, x3, x4, x5, x6, x7, e8⟩ := eight h1l
    have at1 : ∀ {j : Nat} {x : Str} {Φ : KD}, one[j]? = some x → Φ (.str x) μ1 → oIx (.lst (sL one)) (.int (j : Int)) μ1 Φ := fun hj hΦ => oIx_items rfl (atIn (by rw [List.getElem?_map, hj]; rfl)) hΦ
    refine at1 (j := 0) (x := x0) (by rw [e8]; rfl) ?_
    walk_at "d"
    refine at1 (j := 1) (x := x1) (by rw [e8]; rfl) ?_
    walk_at "d"
    refine at1 (j := 2) (x := x2) (by rw [e8]; rfl) ?_
    walk_at "d"
    refine at1 (j := 3) (x := x3) (by rw [e8]; rfl) ?_
    walk_at "d"
    refine at1 (j := 4) (x := x4) (by rw [e8]; rfl) ?_
    walk_at "d"
    refine at1 (j := 5) (x := x5) (by rw [e8]; rfl) ?_
    walk_at "d"
    refine at1 (j := 6) (x := x6) (by rw [e8]; rfl) ?_
    walk_at "d"
    refine at1 (j := 7) (x := x7) (by rw [e8]; rfl) ?_
    walk_at "d"
    clear at1
    show wMake a.C_Marks (w_Marks_d_init a) (sL [x0, x1, x2, x3, x4, x5, x6, x7]) _ _ _
    rw [← e8]
    clear e8 x0 x1 x2 x3 x4 x5 x6 x7
    refine make_Marks (by omega) fun f1 ys1 hf1 S1 => ?_
    -- first
    have m1 : updM μ1 f1 (MkM a.C_Marks ys1) f1 = some (MkM a.C_Marks ys1) := updM_same
    generalize updM μ1 f1 (MkM a.C_Marks ys1) = μ2 at *
    walk_at "d"
    refine ⟨two, rfl, h2l, fun f2 ys2 hf2 S2 => ?_⟩
    have n12 := mu_ne m1 hf2
    have m1 := keep (o := MkM a.C_Marks ys2) hf2 m1
    have m2 : updM μ2 f2 (MkM a.C_Marks ys2) f2 = some (MkM a.C_Marks ys2) := updM_same
    generalize updM μ2 f2 (MkM a.C_Marks ys2) = μ3 at *
    walk_at "d"
    refine ⟨k, one, two, rfl, by omega, fun due hdue ldue => ?_⟩
    walk_at "d"
    have l1 := S1.len (ys := one) (fun z h => h)
    have l2 := S2.len (ys := two) (fun z h => h)
    refine ⟨k, f1, f2, ys1, ys2, rfl, k0, k9, m1, m2, by omega, fun t1 yt hft ST => ?_⟩
    have nt1 := mu_ne m1 hft
    have nt2 := mu_ne m2 hft
    have m1 := keep (o := MkM a.C_Marks yt) hft m1
    have m2 := keep (o := MkM a.C_Marks yt) hft m2
    have mt : updM μ3 t1 (MkM a.C_Marks yt) t1 = some (MkM a.C_Marks yt) := updM_same
    generalize updM μ3 t1 (MkM a.C_Marks yt) = μ4 at *
    have STd : SetOf yt (· ∈ due) := ST.to fun z => (dueP_to S1.2 S2.2 z).trans (hdue z).symm
    have lt := STd.len (ys := due) (fun z h => h)
    have hN1 : ∀ x, x ∈ one → Nm x := h1
    have hN2 : ∀ x, x ∈ two → Nm x := h2
    have hNd : ∀ x, x ∈ due → Nm x := fun x hx => (dueP_of ((hdue x).mp hx)).elim (hN1 x) (hN2 x)
    have hNm : ∀ x, x ∈ due ++ [more] → Nm x := fun x hx => (List.mem_append.mp hx).elim (hNd x) fun e => by rw [List.mem_singleton.mp e]; exact hmore
    walk_at "d"
    refine isi_Marks mt ?_
    walk_at "d"
    refine list_Marks mt (by omega) ?_
    walk_at "d"
    refine alph (by omega) fun ya Sa => ?_
    refine ne_same (setOf_one STd Sa fun _ => Iff.rfl) (names_of Sa hNd) ?_
    walk_at "d"
    refine lenM mt (by omega) ?_
    walk_at "d"
    refine ⟨due, rfl, by omega, ?_⟩
    walk_at "d"
    have elen : yt.length = (sL (dd due)).length := by rw [List.length_map]; exact nd_len STd.1.nodup (dd_nd due) fun z => (STd.2 z).trans (dd_mem due z).symm
    rw [elen, decide_eq_true rfl]
    walk_at "d"
    -- told |= Marks(more)
    show wMake a.C_Marks (w_Marks_d_init a) (sL [more]) _ _ _
    refine make_Marks (by simp) fun q1 yq hq1 SQ => ?_
    have nq1 := mu_ne m1 hq1
    have nq2 := mu_ne m2 hq1
    have nqt := mu_ne mt hq1
    have m1 := keep (o := MkM a.C_Marks yq) hq1 m1
    have m2 := keep (o := MkM a.C_Marks yq) hq1 m2
    have mt := keep (o := MkM a.C_Marks yq) hq1 mt
    have mq : updM μ4 q1 (MkM a.C_Marks yq) q1 = some (MkM a.C_Marks yq) := updM_same
    generalize updM μ4 q1 (MkM a.C_Marks yq) = μ5 at *
    have lq := SQ.len (ys := [more]) (fun z h => h)
    have lq : yq.length ≤ 1 := lq
    refine ior_Marks mt mq STd.1 SQ.1 (by omega) fun yu SU => ?_
    have m1 := upd_at (o := MkM a.C_Marks yu) nt1 m1
    have m2 := upd_at (o := MkM a.C_Marks yu) nt2 m2
    have mt : updM μ5 t1 (MkM a.C_Marks yu) t1 = some (MkM a.C_Marks yu) := updM_same
    generalize updM μ5 t1 (MkM a.C_Marks yu) = μ6 at *
    have hor : ∀ {A B : List Str} {p q : Str → Prop}, SetOf A p → SetOf B q → ∀ z, pOr (· ∈ A) (· ∈ B) z ↔ (p z ∨ q z) := fun hA hB z => or_congr (hA.2 z) (hB.2 z)
    have SU' : SetOf yu (· ∈ due ++ [more]) := SU.to fun z => (hor STd SQ z).trans List.mem_append.symm
    have lu := SU'.len (ys := due ++ [more]) (fun z h => h)
    rw [List.length_append] at lu
    have lu : yu.length ≤ due.length + 1 := lu
    walk_at "d"
    refine list_Marks mt (by omega) ?_
    walk_at "d"
    refine ⟨by show 1 ≤ _; exact sz_of (by decide), ?_⟩
    refine oAdd_lst (b := sL [more]) (by simp only [List.length_map, List.length_singleton]; exact sz_of (by omega)) ?_
    rw [sL_app]
    walk_at "d"
    refine alph (by rw [List.length_append]; simp; omega) fun yb Sb => ?_
    refine ne_same (setOf_one SU' Sb fun _ => Iff.rfl) (names_of Sb hNm) ?_
    walk_at "d"
    refine list_Marks m1 (by omega) ?_
    walk_at "d"
    refine alph (by omega) fun yc Sc => ?_
    refine ne_same (setOf_one S1 Sc fun _ => Iff.rfl) (names_of Sc hN1) ?_
    walk_at "d"
    refine list_Marks m2 (by omega) ?_
    walk_at "d"
    refine alph (by omega) fun yd Sd => ?_
    refine ne_same (setOf_one S2 Sd fun _ => Iff.rfl) (names_of Sd hN2) ?_
    walk_at "d"
    -- again
    refine ⟨k, f1, f2, ys1, ys2, rfl, k0, k9, m1, m2, by omega, fun g1 yg hg1 SG => ?_⟩
    have ng1 := mu_ne m1 hg1
    have ng2 := mu_ne m2 hg1
    have m1 := keep (o := MkM a.C_Marks yg) hg1 m1
    have m2 := keep (o := MkM a.C_Marks yg) hg1 m2
    have mg : updM μ6 g1 (MkM a.C_Marks yg) g1 = some (MkM a.C_Marks yg) := updM_same
    generalize updM μ6 g1 (MkM a.C_Marks yg) = μ7 at *
    have SGd : SetOf yg (· ∈ due) := SG.to fun z => (dueP_to S1.2 S2.2 z).trans (hdue z).symm
    have lg := SGd.len (ys := due) (fun z h => h)
    walk_at "d"
    show wMake a.C_Marks (w_Marks_d_init a) (sL [more]) _ _ _
    refine make_Marks (by simp) fun q2 yr hq2 SR => ?_
    have lr := SR.len (ys := [more]) (fun z h => h)
    have lr : yr.length ≤ 1 := lr
    have m1 := keep (o := MkM a.C_Marks yr) hq2 m1
    have m2 := keep (o := MkM a.C_Marks yr) hq2 m2
    have mg := keep (o := MkM a.C_Marks yr) hq2 mg
    have mr : updM μ7 q2 (MkM a.C_Marks yr) q2 = some (MkM a.C_Marks yr) := updM_same
    generalize updM μ7 q2 (MkM a.C_Marks yr) = μ8 at *
    refine ior_Marks m1 mr S1.1 SR.1 (by omega) fun yv SV => ?_
    have m2 := upd_at (o := MkM a.C_Marks yv) (Ne.symm n12) m2
    have mg := upd_at (o := MkM a.C_Marks yv) (Ne.symm ng1) mg
    have m1 : updM μ8 f1 (MkM a.C_Marks yv) f1 = some (MkM a.C_Marks yv) := updM_same
    generalize updM μ8 f1 (MkM a.C_Marks yv) = μ9 at *
    have SV' : SetOf yv (· ∈ one ++ [more]) := SV.to fun z => (hor S1 SR z).trans List.mem_append.symm
    have lv := SV'.len (ys := one ++ [more]) (fun z h => h)
    rw [List.length_append] at lv
    have lv : yv.length ≤ one.length + 1 := lv
    walk_at "d"
    show wMake a.C_Marks (w_Marks_d_init a) (sL [more]) _ _ _
    refine make_Marks (by simp) fun q3 yw hq3 SW => ?_
    have lw := SW.len (ys := [more]) (fun z h => h)
    have lw : yw.length ≤ 1 := lw
    have m1 := keep (o := MkM a.C_Marks yw) hq3 m1
    have m2 := keep (o := MkM a.C_Marks yw) hq3 m2
    have mg := keep (o := MkM a.C_Marks yw) hq3 mg
    have mw : updM μ9 q3 (MkM a.C_Marks yw) q3 = some (MkM a.C_Marks yw) := updM_same
    generalize updM μ9 q3 (MkM a.C_Marks yw) = μ10 at *
    refine ior_Marks m2 mw S2.1 SW.1 (by omega) fun yx SX => ?_
    have m1 := upd_at (o := MkM a.C_Marks yx) n12 m1
    have mg := upd_at (o := MkM a.C_Marks yx) (Ne.symm ng2) mg
    have m2 : updM μ10 f2 (MkM a.C_Marks yx) f2 = some (MkM a.C_Marks yx) := updM_same
    generalize updM μ10 f2 (MkM a.C_Marks yx) = μ11 at *
    have SX' : SetOf yx (· ∈ two ++ [more]) := SX.to fun z => (hor S2 SW z).trans List.mem_append.symm
    have lx := SX'.len (ys := two ++ [more]) (fun z h => h)
    rw [List.length_append] at lx
    have lx : yx.length ≤ two.length + 1 := lx
    have hNm1 : ∀ x, x ∈ one ++ [more] → Nm x := fun x hx => (List.mem_append.mp hx).elim (hN1 x) fun e => by rw [List.mem_singleton.mp e]; exact hmore
    have hNm2 : ∀ x, x ∈ two ++ [more] → Nm x := fun x hx => (List.mem_append.mp hx).elim (hN2 x) fun e => by rw [List.mem_singleton.mp e]; exact hmore
    walk_at "d"
    refine list_Marks m1 (by omega) ?_
    walk_at "d"
    refine ⟨by show 1 ≤ _; exact sz_of (by decide), ?_⟩
    refine oAdd_lst (b := sL [more]) (by simp only [List.length_map, List.length_singleton]; exact sz_of (by omega)) ?_
    rw [sL_app]
    walk_at "d"
    refine alph (by rw [List.length_append]; simp; omega) fun ye Se => ?_
    refine ne_same (setOf_one SV' Se fun _ => Iff.rfl) (names_of Se hNm1) ?_
    walk_at "d"
    refine list_Marks m2 (by omega) ?_
    walk_at "d"
    refine ⟨by show 1 ≤ _; exact sz_of (by decide), ?_⟩
    refine oAdd_lst (b := sL [more]) (by simp only [List.length_map, List.length_singleton]; exact sz_of (by omega)) ?_
    rw [sL_app]
    walk_at "d"
    refine alph (by rw [List.length_append]; simp; omega) fun yf Sf => ?_
    refine ne_same (setOf_one SX' Sf fun _ => Iff.rfl) (names_of Sf hNm2) ?_
    walk_at "d"
    refine list_Marks mg (by omega) ?_
    walk_at "d"
    refine alph (by omega) fun yh Sh => ?_
    exact eq_same (setOf_one SGd Sh fun _ => Iff.rfl) (names_of Sh hNd) (h _)
  · walk_at "d"
    refine ⟨tp, m, 2, rfl, updM_same, hm, by omega, by omega, fun r m' r0 r1 hm' => ?_⟩
    rw [updM_updM]
    walk_at "d"
    refine ite_d (fun q => ?_) fun q => ?_
    · walk_at "d"
      refine hU _ _ ⟨one.take 3, m', ?_, by rw [List.length_take]; omega, fun x hx => h1 x (List.mem_of_mem_take hx), hm', rfl⟩
      rw [cutD_take h1l]; rfl
    · walk_at "d"
      exact hU _ _ ⟨two0, m', rfl, h2l, h2, hm', rfl⟩
theorem sc_Marks_d_iter_i : FnScope ["self"] ["self"] (defScope s_Marks_d_iter) := ⟨rfl, rfl, rfl, by decide +kernel, rfl, by decide +kernel, by decide +kernel⟩
theorem GI_Marks {P : Program} {w : World} {K : PySem.W.Frag} {mg : Str → Option Value} {base : Heap} {a : Adr} (T : Txt K mg a) : FnR P w K mg base (L2.CX P w) 1 a.f_Marks_d_iter (spIterF K a.C_Marks "names") := by
  obtain ⟨fd, F⟩ := T.F_Marks_d_iter.ex
  exact fn_iterF (p1 := _) F (F.binds (ps := ["self"]) fun _ _ _ _ _ _ us hl => match us, hl with | [_], _ => rfl) sc_Marks_d_iter_i T.o_Marks.cl T.n_Marks_names T.z_iter
theorem sc_Marks_d_len_i : FnScope ["self"] ["self"] (defScope s_Marks_d_len) := ⟨rfl, rfl, rfl, by decide +kernel, rfl, by decide +kernel, by decide +kernel⟩
theorem GL_Marks {P : Program} {w : World} {K : PySem.W.Frag} {mg : Str → Option Value} {base : Heap} {a : Adr} (T : Txt K mg a) : FnR P w K mg base (L2.CX P w) 1 a.f_Marks_d_len (spLenF K a.C_Marks "names") := by
  obtain ⟨fd, F⟩ := T.F_Marks_d_len.ex
  exact fn_lenF (p1 := _) F (F.binds (ps := ["self"]) fun _ _ _ _ _ _ us hl => match us, hl with | [_], _ => rfl) sc_Marks_d_len_i T.o_Marks.cl T.n_Marks_names T.z_len
theorem all_mk {l : PySem.W.OpenLaw} {w : World} {K : PySem.W.Frag} {h : Heap} {mg : Str → Option Value} {fa : Addr} (X : K.In h) (G : h.Ns mainGlobals mg) (hfa : mg "law" = some (.ref fa))
    {C_Marks f_law_tape f_law_pick f_law_letters_name f_Marks_d_init f_Marks_d_or f_Marks_d_and f_Marks_d_sub f_Marks_d_ior f_Marks_d_len f_law_marks_of_up_to_three f_law_distinct f_law_alphabet f_law_due_names f_law_given f_law f_Marks_d_iter : Addr}
    {oc_law_tape kV_law_tape dc_law_tape pm_law_tape cd_law_tape ct_law_tape oc_law_pick kV_law_pick dc_law_pick pm_law_pick cd_law_pick ct_law_pick oc_law_letters_name kV_law_letters_name dc_law_letters_name pm_law_letters_name cd_law_letters_name ct_law_letters_name oc_Marks_d_init kV_Marks_d_init dc_Marks_d_init pm_Marks_d_init cd_Marks_d_init ct_Marks_d_init oc_Marks_d_or kV_Marks_d_or dc_Marks_d_or pm_Marks_d_or cd_Marks_d_or ct_Marks_d_or oc_Marks_d_and kV_Marks_d_and dc_Marks_d_and pm_Marks_d_and cd_Marks_d_and ct_Marks_d_and oc_Marks_d_sub kV_Marks_d_sub dc_Marks_d_sub pm_Marks_d_sub cd_Marks_d_sub ct_Marks_d_sub oc_Marks_d_ior kV_Marks_d_ior dc_Marks_d_ior pm_Marks_d_ior cd_Marks_d_ior ct_Marks_d_ior oc_Marks_d_len kV_Marks_d_len dc_Marks_d_len pm_Marks_d_len cd_Marks_d_len ct_Marks_d_len oc_law_marks_of_up_to_three kV_law_marks_of_up_to_three dc_law_marks_of_up_to_three pm_law_marks_of_up_to_three cd_law_marks_of_up_to_three ct_law_marks_of_up_to_three oc_law_distinct kV_law_distinct dc_law_distinct pm_law_distinct cd_law_distinct ct_law_distinct oc_law_alphabet kV_law_alphabet dc_law_alphabet pm_law_alphabet cd_law_alphabet ct_law_alphabet oc_law_due_names kV_law_due_names dc_law_due_names pm_law_due_names cd_law_due_names ct_law_due_names oc_law_given kV_law_given dc_law_given pm_law_given cd_law_given ct_law_given oc_law kV_law dc_law pm_law cd_law ct_law oc_Marks_d_iter kV_Marks_d_iter dc_Marks_d_iter pm_Marks_d_iter cd_Marks_d_iter ct_Marks_d_iter : Value} {od_law_tape an_law_tape od_law_pick an_law_pick od_law_letters_name an_law_letters_name od_Marks_d_init an_Marks_d_init od_Marks_d_or an_Marks_d_or od_Marks_d_and an_Marks_d_and od_Marks_d_sub an_Marks_d_sub od_Marks_d_ior an_Marks_d_ior od_Marks_d_len an_Marks_d_len od_law_marks_of_up_to_three an_law_marks_of_up_to_three od_law_distinct an_law_distinct od_law_alphabet an_law_alphabet od_law_due_names an_law_due_names od_law_given an_law_given od_law an_law od_Marks_d_iter an_Marks_d_iter : Option Addr} {sl_law_tape sl_law_pick sl_law_letters_name sl_Marks_d_init sl_Marks_d_or sl_Marks_d_and sl_Marks_d_sub sl_Marks_d_ior sl_Marks_d_len sl_law_marks_of_up_to_three sl_law_distinct sl_law_alphabet sl_law_due_names sl_law_given sl_law sl_Marks_d_iter : Array (Option Value)}
    (a_Marks : PySem.W.nsIn K mainGlobals "Marks" = some (some (.ref C_Marks)))
    (pg_Marks : PySem.W.plainGet K C_Marks Str.empty = true)
    (hd_Marks : PySem.W.hasDictIn K C_Marks = true)
    (po_Marks : PySem.W.plainOver K C_Marks = true)
    (sa_Marks : PySem.W.findIn K (.ref C_Marks) "__setattr__" = some (some (.builtin "object.__setattr__")))
    (ha_Marks : PySem.W.findIn K (.ref C_Marks) "__class__" = some (some (.builtin "object.__class__")))
    (hm_Marks : PySem.W.mroIn K C_Marks (.type "object") = some true)
    (sf_Marks : PySem.W.selfFirst K C_Marks = true)
    (nf_Marks : PySem.W.notFirst K C_Marks (.ref C_Marks) = true)
    (mk_Marks : PySem.W.makesIn K C_Marks = true)
    (kc_Marks : PySem.W.keepIn K (.ref C_Marks) = true)
    (hn : PySem.W.specialIn K (.builtin "object.__class__") "__get__" = some (some (.builtin "getset_descriptor.__get__")))
    (htk : PySem.W.takesIn K (.builtin "object.__class__") = some true)
    (a_law_tape : PySem.W.nsIn K mainGlobals "_law_tape" = some (some (.ref f_law_tape)))
    (l_law_tape : K.lookup f_law_tape = some ⟨oc_law_tape, od_law_tape, .func (PySem.W.fnOf "_law_tape" "_law_tape" (defArgs s_law_tape) (defBody s_law_tape) (defScope s_law_tape) .none kV_law_tape dc_law_tape pm_law_tape an_law_tape cd_law_tape ct_law_tape), sl_law_tape⟩)
    (c_law_tape : PySem.W.codeIn K cd_law_tape "_law_tape" = true)
    (k_law_tape : PySem.W.keepIn K (.ref f_law_tape) = true)
    (a_law_pick : PySem.W.nsIn K mainGlobals "_law_pick" = some (some (.ref f_law_pick)))
    (l_law_pick : K.lookup f_law_pick = some ⟨oc_law_pick, od_law_pick, .func (PySem.W.fnOf "_law_pick" "_law_pick" (defArgs s_law_pick) (defBody s_law_pick) (defScope s_law_pick) .none kV_law_pick dc_law_pick pm_law_pick an_law_pick cd_law_pick ct_law_pick), sl_law_pick⟩)
    (c_law_pick : PySem.W.codeIn K cd_law_pick "_law_pick" = true)
    (k_law_pick : PySem.W.keepIn K (.ref f_law_pick) = true)
    (a_law_letters_name : PySem.W.nsIn K mainGlobals "_law_letters_name" = some (some (.ref f_law_letters_name)))
    (l_law_letters_name : K.lookup f_law_letters_name = some ⟨oc_law_letters_name, od_law_letters_name, .func (PySem.W.fnOf "_law_letters_name" "_law_letters_name" (defArgs s_law_letters_name) (defBody s_law_letters_name) (defScope s_law_letters_name) .none kV_law_letters_name dc_law_letters_name pm_law_letters_name an_law_letters_name cd_law_letters_name ct_law_letters_name), sl_law_letters_name⟩)
    (c_law_letters_name : PySem.W.codeIn K cd_law_letters_name "_law_letters_name" = true)
    (k_law_letters_name : PySem.W.keepIn K (.ref f_law_letters_name) = true)
    (a_Marks_d_init : PySem.W.findIn K (.ref C_Marks) "__init__" = some (some (.ref f_Marks_d_init)))
    (i_Marks_d_init : PySem.W.isFn K (.ref f_Marks_d_init) = true)
    (l_Marks_d_init : K.lookup f_Marks_d_init = some ⟨oc_Marks_d_init, od_Marks_d_init, .func (PySem.W.fnOf "__init__" "Marks.__init__" (defArgs s_Marks_d_init) (defBody s_Marks_d_init) (defScope s_Marks_d_init) .none kV_Marks_d_init dc_Marks_d_init pm_Marks_d_init an_Marks_d_init cd_Marks_d_init ct_Marks_d_init), sl_Marks_d_init⟩)
    (c_Marks_d_init : PySem.W.codeIn K cd_Marks_d_init "Marks.__init__" = true)
    (k_Marks_d_init : PySem.W.keepIn K (.ref f_Marks_d_init) = true)
    (a_Marks_d_or : PySem.W.findIn K (.ref C_Marks) "__or__" = some (some (.ref f_Marks_d_or)))
    (i_Marks_d_or : PySem.W.isFn K (.ref f_Marks_d_or) = true)
    (l_Marks_d_or : K.lookup f_Marks_d_or = some ⟨oc_Marks_d_or, od_Marks_d_or, .func (PySem.W.fnOf "__or__" "Marks.__or__" (defArgs s_Marks_d_or) (defBody s_Marks_d_or) (defScope s_Marks_d_or) .none kV_Marks_d_or dc_Marks_d_or pm_Marks_d_or an_Marks_d_or cd_Marks_d_or ct_Marks_d_or), sl_Marks_d_or⟩)
    (c_Marks_d_or : PySem.W.codeIn K cd_Marks_d_or "Marks.__or__" = true)
    (k_Marks_d_or : PySem.W.keepIn K (.ref f_Marks_d_or) = true)
    (a_Marks_d_and : PySem.W.findIn K (.ref C_Marks) "__and__" = some (some (.ref f_Marks_d_and)))
    (i_Marks_d_and : PySem.W.isFn K (.ref f_Marks_d_and) = true)
    (l_Marks_d_and : K.lookup f_Marks_d_and = some ⟨oc_Marks_d_and, od_Marks_d_and, .func (PySem.W.fnOf "__and__" "Marks.__and__" (defArgs s_Marks_d_and) (defBody s_Marks_d_and) (defScope s_Marks_d_and) .none kV_Marks_d_and dc_Marks_d_and pm_Marks_d_and an_Marks_d_and cd_Marks_d_and ct_Marks_d_and), sl_Marks_d_and⟩)
    (c_Marks_d_and : PySem.W.codeIn K cd_Marks_d_and "Marks.__and__" = true)
    (k_Marks_d_and : PySem.W.keepIn K (.ref f_Marks_d_and) = true)
    (a_Marks_d_sub : PySem.W.findIn K (.ref C_Marks) "__sub__" = some (some (.ref f_Marks_d_sub)))
    (i_Marks_d_sub : PySem.W.isFn K (.ref f_Marks_d_sub) = true)
    (l_Marks_d_sub : K.lookup f_Marks_d_sub = some ⟨oc_Marks_d_sub, od_Marks_d_sub, .func (PySem.W.fnOf "__sub__" "Marks.__sub__" (defArgs s_Marks_d_sub) (defBody s_Marks_d_sub) (defScope s_Marks_d_sub) .none kV_Marks_d_sub dc_Marks_d_sub pm_Marks_d_sub an_Marks_d_sub cd_Marks_d_sub ct_Marks_d_sub), sl_Marks_d_sub⟩)
    (c_Marks_d_sub : PySem.W.codeIn K cd_Marks_d_sub "Marks.__sub__" = true)
    (k_Marks_d_sub : PySem.W.keepIn K (.ref f_Marks_d_sub) = true)
    (a_Marks_d_ior : PySem.W.findIn K (.ref C_Marks) "__ior__" = some (some (.ref f_Marks_d_ior)))
    (i_Marks_d_ior : PySem.W.isFn K (.ref f_Marks_d_ior) = true)
    (l_Marks_d_ior : K.lookup f_Marks_d_ior = some ⟨oc_Marks_d_ior, od_Marks_d_ior, .func (PySem.W.fnOf "__ior__" "Marks.__ior__" (defArgs s_Marks_d_ior) (defBody s_Marks_d_ior) (defScope s_Marks_d_ior) .none kV_Marks_d_ior dc_Marks_d_ior pm_Marks_d_ior an_Marks_d_ior cd_Marks_d_ior ct_Marks_d_ior), sl_Marks_d_ior⟩)
    (c_Marks_d_ior : PySem.W.codeIn K cd_Marks_d_ior "Marks.__ior__" = true)
    (k_Marks_d_ior : PySem.W.keepIn K (.ref f_Marks_d_ior) = true)
    (a_Marks_d_len : PySem.W.findIn K (.ref C_Marks) "__len__" = some (some (.ref f_Marks_d_len)))
    (i_Marks_d_len : PySem.W.isFn K (.ref f_Marks_d_len) = true)
    (l_Marks_d_len : K.lookup f_Marks_d_len = some ⟨oc_Marks_d_len, od_Marks_d_len, .func (PySem.W.fnOf "__len__" "Marks.__len__" (defArgs s_Marks_d_len) (defBody s_Marks_d_len) (defScope s_Marks_d_len) .none kV_Marks_d_len dc_Marks_d_len pm_Marks_d_len an_Marks_d_len cd_Marks_d_len ct_Marks_d_len), sl_Marks_d_len⟩)
    (c_Marks_d_len : PySem.W.codeIn K cd_Marks_d_len "Marks.__len__" = true)
    (k_Marks_d_len : PySem.W.keepIn K (.ref f_Marks_d_len) = true)
    (a_law_marks_of_up_to_three : PySem.W.nsIn K mainGlobals "_law_marks_of_up_to_three" = some (some (.ref f_law_marks_of_up_to_three)))
    (l_law_marks_of_up_to_three : K.lookup f_law_marks_of_up_to_three = some ⟨oc_law_marks_of_up_to_three, od_law_marks_of_up_to_three, .func (PySem.W.fnOf "_law_marks_of_up_to_three" "_law_marks_of_up_to_three" (defArgs s_law_marks_of_up_to_three) (defBody s_law_marks_of_up_to_three) (defScope s_law_marks_of_up_to_three) .none kV_law_marks_of_up_to_three dc_law_marks_of_up_to_three pm_law_marks_of_up_to_three an_law_marks_of_up_to_three cd_law_marks_of_up_to_three ct_law_marks_of_up_to_three), sl_law_marks_of_up_to_three⟩)
    (c_law_marks_of_up_to_three : PySem.W.codeIn K cd_law_marks_of_up_to_three "_law_marks_of_up_to_three" = true)
    (k_law_marks_of_up_to_three : PySem.W.keepIn K (.ref f_law_marks_of_up_to_three) = true)
    (a_law_distinct : PySem.W.nsIn K mainGlobals "_law_distinct" = some (some (.ref f_law_distinct)))
    (l_law_distinct : K.lookup f_law_distinct = some ⟨oc_law_distinct, od_law_distinct, .func (PySem.W.fnOf "_law_distinct" "_law_distinct" (defArgs s_law_distinct) (defBody s_law_distinct) (defScope s_law_distinct) .none kV_law_distinct dc_law_distinct pm_law_distinct an_law_distinct cd_law_distinct ct_law_distinct), sl_law_distinct⟩)
    (c_law_distinct : PySem.W.codeIn K cd_law_distinct "_law_distinct" = true)
    (k_law_distinct : PySem.W.keepIn K (.ref f_law_distinct) = true)
    (a_law_alphabet : PySem.W.nsIn K mainGlobals "_law_alphabet" = some (some (.ref f_law_alphabet)))
    (l_law_alphabet : K.lookup f_law_alphabet = some ⟨oc_law_alphabet, od_law_alphabet, .func (PySem.W.fnOf "_law_alphabet" "_law_alphabet" (defArgs s_law_alphabet) (defBody s_law_alphabet) (defScope s_law_alphabet) .none kV_law_alphabet dc_law_alphabet pm_law_alphabet an_law_alphabet cd_law_alphabet ct_law_alphabet), sl_law_alphabet⟩)
    (c_law_alphabet : PySem.W.codeIn K cd_law_alphabet "_law_alphabet" = true)
    (k_law_alphabet : PySem.W.keepIn K (.ref f_law_alphabet) = true)
    (a_law_due_names : PySem.W.nsIn K mainGlobals "_law_due_names" = some (some (.ref f_law_due_names)))
    (l_law_due_names : K.lookup f_law_due_names = some ⟨oc_law_due_names, od_law_due_names, .func (PySem.W.fnOf "_law_due_names" "_law_due_names" (defArgs s_law_due_names) (defBody s_law_due_names) (defScope s_law_due_names) .none kV_law_due_names dc_law_due_names pm_law_due_names an_law_due_names cd_law_due_names ct_law_due_names), sl_law_due_names⟩)
    (c_law_due_names : PySem.W.codeIn K cd_law_due_names "_law_due_names" = true)
    (k_law_due_names : PySem.W.keepIn K (.ref f_law_due_names) = true)
    (a_law_given : PySem.W.nsIn K mainGlobals "_law_given" = some (some (.ref f_law_given)))
    (l_law_given : K.lookup f_law_given = some ⟨oc_law_given, od_law_given, .func (PySem.W.fnOf "_law_given" "_law_given" (defArgs s_law_given) (defBody s_law_given) (defScope s_law_given) .none kV_law_given dc_law_given pm_law_given an_law_given cd_law_given ct_law_given), sl_law_given⟩)
    (c_law_given : PySem.W.codeIn K cd_law_given "_law_given" = true)
    (k_law_given : PySem.W.keepIn K (.ref f_law_given) = true)
    (a_law : PySem.W.nsIn K mainGlobals "law" = some (some (.ref f_law)))
    (l_law : K.lookup f_law = some ⟨oc_law, od_law, .func (PySem.W.fnOf "law" "law" (defArgs s_law) (defBody s_law) (defScope s_law) .none kV_law dc_law pm_law an_law cd_law ct_law), sl_law⟩)
    (c_law : PySem.W.codeIn K cd_law "law" = true)
    (k_law : PySem.W.keepIn K (.ref f_law) = true)
    (a_Marks_d_iter : PySem.W.findIn K (.ref C_Marks) "__iter__" = some (some (.ref f_Marks_d_iter)))
    (i_Marks_d_iter : PySem.W.isFn K (.ref f_Marks_d_iter) = true)
    (l_Marks_d_iter : K.lookup f_Marks_d_iter = some ⟨oc_Marks_d_iter, od_Marks_d_iter, .func (PySem.W.fnOf "__iter__" "Marks.__iter__" (defArgs s_Marks_d_iter) (defBody s_Marks_d_iter) (defScope s_Marks_d_iter) .none kV_Marks_d_iter dc_Marks_d_iter pm_Marks_d_iter an_Marks_d_iter cd_Marks_d_iter ct_Marks_d_iter), sl_Marks_d_iter⟩)
    (c_Marks_d_iter : PySem.W.codeIn K cd_Marks_d_iter "Marks.__iter__" = true)
    (k_Marks_d_iter : PySem.W.keepIn K (.ref f_Marks_d_iter) = true)
    (n_Marks_names : PySem.W.findIn K (.ref C_Marks) "names" = some none)
    (z_int : PySem.W.nsIn K mainGlobals "int" = some none)
    (z_isinstance : PySem.W.nsIn K mainGlobals "isinstance" = some none)
    (z_iter : PySem.W.nsIn K mainGlobals "iter" = some none)
    (z_len : PySem.W.nsIn K mainGlobals "len" = some none)
    (z_list : PySem.W.nsIn K mainGlobals "list" = some none)
    (z_range : PySem.W.nsIn K mainGlobals "range" = some none)
    (z_sorted : PySem.W.nsIn K mainGlobals "sorted" = some none)
    (z_str : PySem.W.nsIn K mainGlobals "str" = some none)
    : ∃ fd : FuncData, (∀ (s : Shared) (v : Value), BindsTo s fd ⟨[v], []⟩ [("script", v)]) ∧ ∀ base : Heap, K.In base → base.Ns mainGlobals mg → FnOk l.prog w K mg base (L2.CX l.prog w) 5 fa fd ["script"] (SpD K tLaw) := by
  have e : f_law = fa := Value.ref.inj (Option.some.inj ((PySem.W.mg_of X G a_law).symm.trans hfa))
  subst e
  have T : Txt K mg ⟨C_Marks, f_law_tape, f_law_pick, f_law_letters_name, f_Marks_d_init, f_Marks_d_or, f_Marks_d_and, f_Marks_d_sub, f_Marks_d_ior, f_Marks_d_len, f_law_marks_of_up_to_three, f_law_distinct, f_law_alphabet, f_law_due_names, f_law_given, f_law, f_Marks_d_iter⟩ := { F_law_tape := ⟨⟨_, _, _, _, _, _, _, _, _, l_law_tape, c_law_tape⟩, k_law_tape⟩, g_law_tape := PySem.W.mg_of X G a_law_tape, F_law_pick := ⟨⟨_, _, _, _, _, _, _, _, _, l_law_pick, c_law_pick⟩, k_law_pick⟩, g_law_pick := PySem.W.mg_of X G a_law_pick, F_law_letters_name := ⟨⟨_, _, _, _, _, _, _, _, _, l_law_letters_name, c_law_letters_name⟩, k_law_letters_name⟩, g_law_letters_name := PySem.W.mg_of X G a_law_letters_name, F_Marks_d_init := ⟨⟨_, _, _, _, _, _, _, _, _, l_Marks_d_init, c_Marks_d_init⟩, k_Marks_d_init⟩, F_Marks_d_or := ⟨⟨_, _, _, _, _, _, _, _, _, l_Marks_d_or, c_Marks_d_or⟩, k_Marks_d_or⟩, m_Marks_d_or := ⟨a_Marks_d_or, i_Marks_d_or⟩, F_Marks_d_and := ⟨⟨_, _, _, _, _, _, _, _, _, l_Marks_d_and, c_Marks_d_and⟩, k_Marks_d_and⟩, m_Marks_d_and := ⟨a_Marks_d_and, i_Marks_d_and⟩, F_Marks_d_sub := ⟨⟨_, _, _, _, _, _, _, _, _, l_Marks_d_sub, c_Marks_d_sub⟩, k_Marks_d_sub⟩, m_Marks_d_sub := ⟨a_Marks_d_sub, i_Marks_d_sub⟩, F_Marks_d_ior := ⟨⟨_, _, _, _, _, _, _, _, _, l_Marks_d_ior, c_Marks_d_ior⟩, k_Marks_d_ior⟩, m_Marks_d_ior := ⟨a_Marks_d_ior, i_Marks_d_ior⟩, F_Marks_d_len := ⟨⟨_, _, _, _, _, _, _, _, _, l_Marks_d_len, c_Marks_d_len⟩, k_Marks_d_len⟩, m_Marks_d_len := ⟨a_Marks_d_len, i_Marks_d_len⟩, F_law_marks_of_up_to_three := ⟨⟨_, _, _, _, _, _, _, _, _, l_law_marks_of_up_to_three, c_law_marks_of_up_to_three⟩, k_law_marks_of_up_to_three⟩, g_law_marks_of_up_to_three := PySem.W.mg_of X G a_law_marks_of_up_to_three, F_law_distinct := ⟨⟨_, _, _, _, _, _, _, _, _, l_law_distinct, c_law_distinct⟩, k_law_distinct⟩, g_law_distinct := PySem.W.mg_of X G a_law_distinct, F_law_alphabet := ⟨⟨_, _, _, _, _, _, _, _, _, l_law_alphabet, c_law_alphabet⟩, k_law_alphabet⟩, g_law_alphabet := PySem.W.mg_of X G a_law_alphabet, F_law_due_names := ⟨⟨_, _, _, _, _, _, _, _, _, l_law_due_names, c_law_due_names⟩, k_law_due_names⟩, g_law_due_names := PySem.W.mg_of X G a_law_due_names, F_law_given := ⟨⟨_, _, _, _, _, _, _, _, _, l_law_given, c_law_given⟩, k_law_given⟩, g_law_given := PySem.W.mg_of X G a_law_given, F_law := ⟨⟨_, _, _, _, _, _, _, _, _, l_law, c_law⟩, k_law⟩, g_law := PySem.W.mg_of X G a_law, F_Marks_d_iter := ⟨⟨_, _, _, _, _, _, _, _, _, l_Marks_d_iter, c_Marks_d_iter⟩, k_Marks_d_iter⟩, m_Marks_d_iter := ⟨a_Marks_d_iter, i_Marks_d_iter⟩, g_Marks := PySem.W.mg_of X G a_Marks, o_Marks := ⟨⟨pg_Marks, hd_Marks, po_Marks, sa_Marks⟩, ha_Marks, hn, htk, hm_Marks⟩, sf_Marks := sf_Marks, nf_Marks := nf_Marks, mk_Marks := ⟨mk_Marks, a_Marks_d_init, i_Marks_d_init, kc_Marks⟩, n_Marks_names := n_Marks_names, i_Marks_Marks := if_pos (beq_self_eq_true _), z_int := PySem.W.mg_none_of X G z_int, z_isinstance := PySem.W.mg_none_of X G z_isinstance, z_iter := PySem.W.mg_none_of X G z_iter, z_len := PySem.W.mg_none_of X G z_len, z_list := PySem.W.mg_none_of X G z_list, z_range := PySem.W.mg_none_of X G z_range, z_sorted := PySem.W.mg_none_of X G z_sorted, z_str := PySem.W.mg_none_of X G z_str }
  have G_law_tape : ∀ base, FnD l.prog w K mg base 1 f_law_tape (w_law_tape ⟨C_Marks, f_law_tape, f_law_pick, f_law_letters_name, f_Marks_d_init, f_Marks_d_or, f_Marks_d_and, f_Marks_d_sub, f_Marks_d_ior, f_Marks_d_len, f_law_marks_of_up_to_three, f_law_distinct, f_law_alphabet, f_law_due_names, f_law_given, f_law, f_Marks_d_iter⟩) := fun base => ok_law_tape T 
  have G_law_pick : ∀ base, FnD l.prog w K mg base 1 f_law_pick (w_law_pick ⟨C_Marks, f_law_tape, f_law_pick, f_law_letters_name, f_Marks_d_init, f_Marks_d_or, f_Marks_d_and, f_Marks_d_sub, f_Marks_d_ior, f_Marks_d_len, f_law_marks_of_up_to_three, f_law_distinct, f_law_alphabet, f_law_due_names, f_law_given, f_law, f_Marks_d_iter⟩) := fun base => ok_law_pick T 
  have G_law_letters_name : ∀ base, FnD l.prog w K mg base 2 f_law_letters_name (w_law_letters_name ⟨C_Marks, f_law_tape, f_law_pick, f_law_letters_name, f_Marks_d_init, f_Marks_d_or, f_Marks_d_and, f_Marks_d_sub, f_Marks_d_ior, f_Marks_d_len, f_law_marks_of_up_to_three, f_law_distinct, f_law_alphabet, f_law_due_names, f_law_given, f_law, f_Marks_d_iter⟩) := fun base => ok_law_letters_name T (G_law_pick base)
  have G_Marks_d_init : ∀ base, FnD l.prog w K mg base 1 f_Marks_d_init (w_Marks_d_init ⟨C_Marks, f_law_tape, f_law_pick, f_law_letters_name, f_Marks_d_init, f_Marks_d_or, f_Marks_d_and, f_Marks_d_sub, f_Marks_d_ior, f_Marks_d_len, f_law_marks_of_up_to_three, f_law_distinct, f_law_alphabet, f_law_due_names, f_law_given, f_law, f_Marks_d_iter⟩) := fun base => ok_Marks_d_init T 
  have G_Marks_d_or : ∀ base, FnD l.prog w K mg base 3 f_Marks_d_or (w_Marks_d_or ⟨C_Marks, f_law_tape, f_law_pick, f_law_letters_name, f_Marks_d_init, f_Marks_d_or, f_Marks_d_and, f_Marks_d_sub, f_Marks_d_ior, f_Marks_d_len, f_law_marks_of_up_to_three, f_law_distinct, f_law_alphabet, f_law_due_names, f_law_given, f_law, f_Marks_d_iter⟩) := fun base => ok_Marks_d_or T (G_Marks_d_init base)
  have G_Marks_d_and : ∀ base, FnD l.prog w K mg base 3 f_Marks_d_and (w_Marks_d_and ⟨C_Marks, f_law_tape, f_law_pick, f_law_letters_name, f_Marks_d_init, f_Marks_d_or, f_Marks_d_and, f_Marks_d_sub, f_Marks_d_ior, f_Marks_d_len, f_law_marks_of_up_to_three, f_law_distinct, f_law_alphabet, f_law_due_names, f_law_given, f_law, f_Marks_d_iter⟩) := fun base => ok_Marks_d_and T (G_Marks_d_init base)
  have G_Marks_d_sub : ∀ base, FnD l.prog w K mg base 3 f_Marks_d_sub (w_Marks_d_sub ⟨C_Marks, f_law_tape, f_law_pick, f_law_letters_name, f_Marks_d_init, f_Marks_d_or, f_Marks_d_and, f_Marks_d_sub, f_Marks_d_ior, f_Marks_d_len, f_law_marks_of_up_to_three, f_law_distinct, f_law_alphabet, f_law_due_names, f_law_given, f_law, f_Marks_d_iter⟩) := fun base => ok_Marks_d_sub T (G_Marks_d_init base)
  have G_Marks_d_ior : ∀ base, FnD l.prog w K mg base 1 f_Marks_d_ior (w_Marks_d_ior ⟨C_Marks, f_law_tape, f_law_pick, f_law_letters_name, f_Marks_d_init, f_Marks_d_or, f_Marks_d_and, f_Marks_d_sub, f_Marks_d_ior, f_Marks_d_len, f_law_marks_of_up_to_three, f_law_distinct, f_law_alphabet, f_law_due_names, f_law_given, f_law, f_Marks_d_iter⟩) := fun base => ok_Marks_d_ior T 
  have G_Marks_d_len : ∀ base, FnD l.prog w K mg base 1 f_Marks_d_len (w_Marks_d_len ⟨C_Marks, f_law_tape, f_law_pick, f_law_letters_name, f_Marks_d_init, f_Marks_d_or, f_Marks_d_and, f_Marks_d_sub, f_Marks_d_ior, f_Marks_d_len, f_law_marks_of_up_to_three, f_law_distinct, f_law_alphabet, f_law_due_names, f_law_given, f_law, f_Marks_d_iter⟩) := fun base => ok_Marks_d_len T 
  have G_law_marks_of_up_to_three : ∀ base, FnD l.prog w K mg base 3 f_law_marks_of_up_to_three (w_law_marks_of_up_to_three ⟨C_Marks, f_law_tape, f_law_pick, f_law_letters_name, f_Marks_d_init, f_Marks_d_or, f_Marks_d_and, f_Marks_d_sub, f_Marks_d_ior, f_Marks_d_len, f_law_marks_of_up_to_three, f_law_distinct, f_law_alphabet, f_law_due_names, f_law_given, f_law, f_Marks_d_iter⟩) := fun base => ok_law_marks_of_up_to_three T (G_Marks_d_init base)
  have G_law_distinct : ∀ base, FnD l.prog w K mg base 1 f_law_distinct (w_law_distinct ⟨C_Marks, f_law_tape, f_law_pick, f_law_letters_name, f_Marks_d_init, f_Marks_d_or, f_Marks_d_and, f_Marks_d_sub, f_Marks_d_ior, f_Marks_d_len, f_law_marks_of_up_to_three, f_law_distinct, f_law_alphabet, f_law_due_names, f_law_given, f_law, f_Marks_d_iter⟩) := fun base => ok_law_distinct T 
  have G_law_alphabet : ∀ base, FnD l.prog w K mg base 2 f_law_alphabet (w_law_alphabet ⟨C_Marks, f_law_tape, f_law_pick, f_law_letters_name, f_Marks_d_init, f_Marks_d_or, f_Marks_d_and, f_Marks_d_sub, f_Marks_d_ior, f_Marks_d_len, f_law_marks_of_up_to_three, f_law_distinct, f_law_alphabet, f_law_due_names, f_law_given, f_law, f_Marks_d_iter⟩) := fun base => ok_law_alphabet T (G_law_distinct base)
  have G_law_due_names : ∀ base, FnD l.prog w K mg base 1 f_law_due_names (w_law_due_names ⟨C_Marks, f_law_tape, f_law_pick, f_law_letters_name, f_Marks_d_init, f_Marks_d_or, f_Marks_d_and, f_Marks_d_sub, f_Marks_d_ior, f_Marks_d_len, f_law_marks_of_up_to_three, f_law_distinct, f_law_alphabet, f_law_due_names, f_law_given, f_law, f_Marks_d_iter⟩) := fun base => ok_law_due_names T 
  have G_law_given : ∀ base, FnD l.prog w K mg base 4 f_law_given (w_law_given ⟨C_Marks, f_law_tape, f_law_pick, f_law_letters_name, f_Marks_d_init, f_Marks_d_or, f_Marks_d_and, f_Marks_d_sub, f_Marks_d_ior, f_Marks_d_len, f_law_marks_of_up_to_three, f_law_distinct, f_law_alphabet, f_law_due_names, f_law_given, f_law, f_Marks_d_iter⟩) := fun base => ok_law_given T (G_Marks_d_or base) (G_Marks_d_and base) (G_Marks_d_sub base)
  have F := fun_mk (st := s_law) l_law c_law k_law
  exact ⟨_, fun s v => .of_eq rfl, fun base _ _ => fn_law F sc_law fun cdv A outer s H E hr => ⟨B_law ⟨C_Marks, f_law_tape, f_law_pick, f_law_letters_name, f_Marks_d_init, f_Marks_d_or, f_Marks_d_and, f_Marks_d_sub, f_Marks_d_ior, f_Marks_d_len, f_law_marks_of_up_to_three, f_law_distinct, f_law_alphabet, f_law_due_names, f_law_given, f_law, f_Marks_d_iter⟩, D_law T (G_law_tape base) (G_law_letters_name base) (G_law_pick base) (G_Marks_d_init base) (G_law_marks_of_up_to_three base) (G_law_due_names base) (G_law_given base) (G_Marks_d_len base) (G_law_alphabet base) (G_law_distinct base) (G_Marks_d_ior base) (GI_Marks T) (GL_Marks T) cdv A outer s H E hr, fun ds μ Ξ Φ h => read_law (a := ⟨C_Marks, f_law_tape, f_law_pick, f_law_letters_name, f_Marks_d_init, f_Marks_d_or, f_Marks_d_and, f_Marks_d_sub, f_Marks_d_ior, f_Marks_d_len, f_law_marks_of_up_to_three, f_law_distinct, f_law_alphabet, f_law_due_names, f_law_given, f_law, f_Marks_d_iter⟩) ds μ Ξ Φ h⟩⟩
end Law
open PySem PySem.W PyProof.Rows in
set_option maxRecDepth 100000 in
set_option maxHeartbeats 0 in
theorem PySem.Challenge.cw_redomarks_k51_sets_of_their_own_holds : PySem.Challenge.rw_redomarks_k51_sets_of_their_own.Holds := by
  w_on; o_law; k_head; (case hw => w_witness2)
  k_fill
  refine DL.walk_D (l := PySem.Challenge.rw_redomarks_k51_sets_of_their_own) (k := 5) rfl rfl ⟨rfl, by decide, by decide⟩ (fun w h Y => PySem.W.kIn_of Y) ?F
  case F =>
    intro w mg fa h KX G hmg
    refine' Law.all_mk KX G hmg ?a_Marks ?pg_Marks ?hd_Marks ?po_Marks ?sa_Marks ?ha_Marks ?hm_Marks ?sf_Marks ?nf_Marks ?mk_Marks ?kc_Marks ?hn ?htk ?a_law_tape ?l_law_tape ?c_law_tape ?k_law_tape ?a_law_pick ?l_law_pick ?c_law_pick ?k_law_pick ?a_law_letters_name ?l_law_letters_name ?c_law_letters_name ?k_law_letters_name ?a_Marks_d_init ?i_Marks_d_init ?l_Marks_d_init ?c_Marks_d_init ?k_Marks_d_init ?a_Marks_d_or ?i_Marks_d_or ?l_Marks_d_or ?c_Marks_d_or ?k_Marks_d_or ?a_Marks_d_and ?i_Marks_d_and ?l_Marks_d_and ?c_Marks_d_and ?k_Marks_d_and ?a_Marks_d_sub ?i_Marks_d_sub ?l_Marks_d_sub ?c_Marks_d_sub ?k_Marks_d_sub ?a_Marks_d_ior ?i_Marks_d_ior ?l_Marks_d_ior ?c_Marks_d_ior ?k_Marks_d_ior ?a_Marks_d_len ?i_Marks_d_len ?l_Marks_d_len ?c_Marks_d_len ?k_Marks_d_len ?a_law_marks_of_up_to_three ?l_law_marks_of_up_to_three ?c_law_marks_of_up_to_three ?k_law_marks_of_up_to_three ?a_law_distinct ?l_law_distinct ?c_law_distinct ?k_law_distinct ?a_law_alphabet ?l_law_alphabet ?c_law_alphabet ?k_law_alphabet ?a_law_due_names ?l_law_due_names ?c_law_due_names ?k_law_due_names ?a_law_given ?l_law_given ?c_law_given ?k_law_given ?a_law ?l_law ?c_law ?k_law ?a_Marks_d_iter ?i_Marks_d_iter ?l_Marks_d_iter ?c_Marks_d_iter ?k_Marks_d_iter ?n_Marks_names ?z_int ?z_isinstance ?z_iter ?z_len ?z_list ?z_range ?z_sorted ?z_str
    (case a_Marks => k_is)
    (case pg_Marks => k_is)
    (case hd_Marks => k_is)
    (case po_Marks => k_is)
    (case sa_Marks => k_is)
    (case ha_Marks => k_is)
    (case hm_Marks => k_is)
    (case sf_Marks => k_is)
    (case nf_Marks => k_is)
    (case mk_Marks => k_is)
    (case kc_Marks => k_is)
    (case hn => k_is)
    (case htk => k_is)
    (case a_law_tape => k_is)
    (case l_law_tape => k_is)
    (case c_law_tape => k_is)
    (case k_law_tape => k_is)
    (case a_law_pick => k_is)
    (case l_law_pick => k_is)
    (case c_law_pick => k_is)
    (case k_law_pick => k_is)
    (case a_law_letters_name => k_is)
    (case l_law_letters_name => k_is)
    (case c_law_letters_name => k_is)
    (case k_law_letters_name => k_is)
    (case a_Marks_d_init => k_is)
    (case i_Marks_d_init => k_is)
    (case l_Marks_d_init => k_is)
    (case c_Marks_d_init => k_is)
    (case k_Marks_d_init => k_is)
    (case a_Marks_d_or => k_is)
    (case i_Marks_d_or => k_is)
    (case l_Marks_d_or => k_is)
    (case c_Marks_d_or => k_is)
    (case k_Marks_d_or => k_is)
    (case a_Marks_d_and => k_is)
    (case i_Marks_d_and => k_is)
    (case l_Marks_d_and => k_is)
    (case c_Marks_d_and => k_is)
    (case k_Marks_d_and => k_is)
    (case a_Marks_d_sub => k_is)
    (case i_Marks_d_sub => k_is)
    (case l_Marks_d_sub => k_is)
    (case c_Marks_d_sub => k_is)
    (case k_Marks_d_sub => k_is)
    (case a_Marks_d_ior => k_is)
    (case i_Marks_d_ior => k_is)
    (case l_Marks_d_ior => k_is)
    (case c_Marks_d_ior => k_is)
    (case k_Marks_d_ior => k_is)
    (case a_Marks_d_len => k_is)
    (case i_Marks_d_len => k_is)
    (case l_Marks_d_len => k_is)
    (case c_Marks_d_len => k_is)
    (case k_Marks_d_len => k_is)
    (case a_law_marks_of_up_to_three => k_is)
    (case l_law_marks_of_up_to_three => k_is)
    (case c_law_marks_of_up_to_three => k_is)
    (case k_law_marks_of_up_to_three => k_is)
    (case a_law_distinct => k_is)
    (case l_law_distinct => k_is)
    (case c_law_distinct => k_is)
    (case k_law_distinct => k_is)
    (case a_law_alphabet => k_is)
    (case l_law_alphabet => k_is)
    (case c_law_alphabet => k_is)
    (case k_law_alphabet => k_is)
    (case a_law_due_names => k_is)
    (case l_law_due_names => k_is)
    (case c_law_due_names => k_is)
    (case k_law_due_names => k_is)
    (case a_law_given => k_is)
    (case l_law_given => k_is)
    (case c_law_given => k_is)
    (case k_law_given => k_is)
    (case a_law => k_is)
    (case l_law => k_is)
    (case c_law => k_is)
    (case k_law => k_is)
    (case a_Marks_d_iter => k_is)
    (case i_Marks_d_iter => k_is)
    (case l_Marks_d_iter => k_is)
    (case c_Marks_d_iter => k_is)
    (case k_Marks_d_iter => k_is)
    (case n_Marks_names => k_is)
    (case z_int => k_is)
    (case z_isinstance => k_is)
    (case z_iter => k_is)
    (case z_len => k_is)
    (case z_list => k_is)
    (case z_range => k_is)
    (case z_sorted => k_is)
    (case z_str => k_is)

