import PyProof.Rows.All
import Wide.All
import OpenK.AllK
import Wide.FinOn
import HandS.ForMost
import HandS.ForExc
import HandS.CallSlots
import HandS.Iter
import HandS.Small
import HandS.RaiseMore
import HandS.TupAny
import HandS.Star
import HandS.IsInst
import HandS.OwnEq
import HandS.OwnIter
import HandS.IterNext
import KE.KOpsOwn
import HandS.Flow
import PySem.Challenge.RW_redomarks_k56_keys_and_sets
set_option Elab.async false
set_option linter.all false
set_option maxRecDepth 100000
set_option maxHeartbeats 4000000
/-! # DL: a layer of plain data over the hand layer: what never changes is data (D), what changes stands in a small store (Mu) by its address -/
namespace DL
open PySem L2

/-- plain data: what a value stands for; adr: an object of the store (or a class, a def) by its address -/
inductive D where
  | non | bl (b : Bool) | int (i : Int) | str (x : Str) | ty (n : String) | adr (a : Addr)
  | lst (xs : List D) | tup (xs : List D) | ktup (xs : List D) | fro (xs : List D) | ftup (xs : List D)
  | dK (kvs : List (Key × D)) | dT (kvs : List (List Key × D))
  | ins (C : Addr) (fs : List (Str × D))
/-- an object that changes -/
inductive MO where
  | lst (xs : List D) | dK (kvs : List (Key × D)) | dT (kvs : List (List Key × D)) | ins (C : Addr) (fs : List (Str × D))
  | lK (ob : Obj) (vs : List (Key × V)) (kvs : List (Key × D)) | lT (ob : Obj) (vs : List (List Key × V)) (kvs : List (List Key × D))
abbrev Mu := Addr → Option MO
def updM (μ : Mu) (a : Addr) (o : MO) : Mu := fun b => if b = a then some o else μ b
def delM (μ : Mu) (a : Addr) : Mu := fun b => if b = a then none else μ b
theorem updM_same {μ : Mu} {a : Addr} {o : MO} : updM μ a o a = some o := by unfold updM; rw [if_pos rfl]
theorem updM_ne {μ : Mu} {a b : Addr} {o : MO} (h : b ≠ a) : updM μ a o b = μ b := by unfold updM; rw [if_neg h]
theorem updM_updM {μ : Mu} {a : Addr} {o u : MO} : updM (updM μ a o) a u = updM μ a u := by
  funext b; unfold updM; split <;> rfl
theorem updM_self {μ : Mu} {a : Addr} {o : MO} (h : μ a = some o) : updM μ a o = μ := by
  funext b; unfold updM; split
  · rename_i e; rw [e, h]
  · rfl
theorem updM_comm {μ : Mu} {a b : Addr} {o u : MO} (h : a ≠ b) : updM (updM μ a o) b u = updM (updM μ b u) a o := by
  funext c; unfold updM; split
  · rename_i e; subst e; rw [if_neg (Ne.symm h)]
  · rfl
theorem delM_updM {μ : Mu} {a : Addr} {o : MO} (h : μ a = none) : delM (updM μ a o) a = μ := by
  funext b; unfold delM updM; split
  · rename_i e; rw [e, h]
  · rfl
theorem updM_upd2 {μ : Mu} {a b : Addr} {o u v : MO} (h : a ≠ b) : updM (updM (updM μ a o) b u) a v = updM (updM μ a v) b u := by
  rw [updM_comm (μ := updM μ a o) (Ne.symm h), updM_updM]
theorem delM_upd2 {μ : Mu} {a b : Addr} {o u : MO} (h : a ≠ b) (hn : μ b = none) : delM (updM (updM μ b u) a o) b = updM μ a o := by
  funext c; unfold delM updM
  by_cases e : c = b
  · subst e; rw [if_pos rfl, if_neg (Ne.symm h), hn]
  · rw [if_neg e]; split
    · rfl
    · first | rfl | rw [if_neg e]
theorem mu_ne {μ : Mu} {a b : Addr} {o : MO} (h : μ a = some o) (h' : μ b = none) : a ≠ b := by
  intro e; subst e; rw [h] at h'; cases h'
theorem mu_ne' {μ : Mu} {a b : Addr} {o : MO} (h : μ a = some o) (h' : μ b = none) : b ≠ a := fun e => mu_ne h h' e.symm

/-- v stands for d, in the part S of the abstract heap that never changes -/
inductive At (K : PySem.W.Frag) (S : Hp) : V → D → Prop
  | non : At K S .non .non
  | bl (b : Bool) : At K S (.bl b) (.bl b)
  | int (i : Int) : At K S (.int i) (.int i)
  | str (x : Str) : At K S (.str x) (.str x)
  | ty (n : String) : At K S (.ty n) (.ty n)
  | adr (a : Addr) : At K S (.ref a) (.adr a)
  | lst {p : Addr} {vs : List V} {ds : List D} (h : S p = some (.lst vs)) (hl : vs.length = ds.length) (hi : ∀ (i : Nat) v d, vs[i]? = some v → ds[i]? = some d → At K S v d) : At K S (.ref p) (.lst ds)
  | tup {p : Addr} {vs : List V} {ds : List D} (h : S p = some (.tup vs)) (hl : vs.length = ds.length) (hi : ∀ (i : Nat) v d, vs[i]? = some v → ds[i]? = some d → At K S v d) : At K S (.ref p) (.tup ds)
  | ktup {p : Addr} {vs : List V} {ds : List D} (h : SqT K S p vs) (hl : vs.length = ds.length) (hi : ∀ (i : Nat) v d, vs[i]? = some v → ds[i]? = some d → At K S v d) : At K S (.ref p) (.ktup ds)
  | ftup {p : Addr} {ob : Obj} {vs : List V} {ds : List D} (h : S p = some (.frz ob (.tup vs))) (hd : ob.dict = none) (hl : vs.length = ds.length) (hi : ∀ (i : Nat) v d, vs[i]? = some v → ds[i]? = some d → At K S v d) : At K S (.ref p) (.ftup ds)
  | fro {p : Addr} {vs : List V} {ds : List D} (h : SqL K S p vs) (hl : vs.length = ds.length) (hi : ∀ (i : Nat) v d, vs[i]? = some v → ds[i]? = some d → At K S v d) : At K S (.ref p) (.fro ds)
  | dK {p : Addr} {ob : Obj} {kvs : List (Key × V)} {es : List (Key × D)} (h : S p = some (.frz ob (.dK kvs))) (hk : kvs.map (·.1) = es.map (·.1)) (hi : ∀ (i : Nat) v d, (kvs.map (·.2))[i]? = some v → (es.map (·.2))[i]? = some d → At K S v d) : At K S (.ref p) (.dK es)
  | dT {p : Addr} {ob : Obj} {kvs : List (List Key × V)} {es : List (List Key × D)} (h : S p = some (.frz ob (.dT kvs))) (hk : kvs.map (·.1) = es.map (·.1)) (hi : ∀ (i : Nat) v d, (kvs.map (·.2))[i]? = some v → (es.map (·.2))[i]? = some d → At K S v d) : At K S (.ref p) (.dT es)
  | ins {p C dx : Addr} {fs : List (Str × V)} {gs : List (Str × D)} (h : S p = some (.ins C dx fs)) (hk : fs.map (·.1) = gs.map (·.1)) (hi : ∀ (i : Nat) v d, (fs.map (·.2))[i]? = some v → (gs.map (·.2))[i]? = some d → At K S v d) : At K S (.ref p) (.ins C gs)

def Le (S S' : Hp) : Prop := ∀ a o, S a = some o → S' a = some o
theorem Le.refl (S : Hp) : Le S S := fun _ _ h => h
theorem Le.trans {S S1 S2 : Hp} (a : Le S S1) (b : Le S1 S2) : Le S S2 := fun x o h => b x o (a x o h)
theorem Le.new {S : Hp} {p : Addr} {o : HO} (h : S p = none) : Le S (upd S p o) := fun a u e => by
  rw [upd_ne (ne_of_none e h)]; exact e
theorem Le.rd {S S' : Hp} (e : Le S S') {a : Addr} {u : HO} (h : Rd S a u) : Rd S' a u := h.elim (fun h => .inl (e _ _ h)) fun ⟨o, h⟩ => .inr ⟨o, e _ _ h⟩
theorem Le.sqT {K : PySem.W.Frag} {S S' : Hp} (e : Le S S') {a : Addr} {xs : List V} (h : SqT K S a xs) : SqT K S' a xs := h.elim (fun h => .inl (e.rd h)) .inr
theorem Le.sqL {K : PySem.W.Frag} {S S' : Hp} (e : Le S S') {a : Addr} {xs : List V} (h : SqL K S a xs) : SqL K S' a xs := h.elim (fun h => .inl (e.rd h)) .inr
theorem At.mono {K : PySem.W.Frag} {S S' : Hp} (e : Le S S') {v : V} {d : D} (h : At K S v d) : At K S' v d := by
  induction h with
  | non => exact .non
  | bl b => exact .bl b
  | int i => exact .int i
  | str x => exact .str x
  | ty n => exact .ty n
  | adr a => exact .adr a
  | lst h hl _ ih => exact .lst (e _ _ h) hl ih
  | tup h hl _ ih => exact .tup (e _ _ h) hl ih
  | ktup h hl _ ih => exact .ktup (e.sqT h) hl ih
  | ftup h hd hl _ ih => exact .ftup (e _ _ h) hd hl ih
  | fro h hl _ ih => exact .fro (e.sqL h) hl ih
  | dK h hk _ ih => exact .dK (e _ _ h) hk ih
  | dT h hk _ ih => exact .dT (e _ _ h) hk ih
  | ins h hk _ ih => exact .ins (e _ _ h) hk ih

/-- item by item -/
def AtL (K : PySem.W.Frag) (S : Hp) (vs : List V) (ds : List D) : Prop := vs.length = ds.length ∧ ∀ (i : Nat) v d, vs[i]? = some v → ds[i]? = some d → At K S v d
section
variable {K : PySem.W.Frag} {S S' : Hp} {vs ws : List V} {ds es : List D} {v : V} {d : D}
theorem AtL.mono (e : Le S S') (h : AtL K S vs ds) : AtL K S' vs ds := ⟨h.1, fun i v d a b => (h.2 i v d a b).mono e⟩
theorem AtL.nil : AtL K S [] [] := ⟨rfl, fun i v d a _ => by simp at a⟩
theorem AtL.cons (h : At K S v d) (t : AtL K S vs ds) : AtL K S (v :: vs) (d :: ds) := by
  refine ⟨by simp [t.1], fun i w e a b => ?_⟩
  cases i with
  | zero => simp at a b; subst a; subst b; exact h
  | succ i => simp at a b; exact t.2 i w e a b
theorem AtL.head (t : AtL K S (v :: vs) (d :: ds)) : At K S v d := t.2 0 v d rfl rfl
theorem AtL.tail (t : AtL K S (v :: vs) (d :: ds)) : AtL K S vs ds := ⟨by simpa using t.1, fun i w e a b => t.2 (i + 1) w e (by simpa using a) (by simpa using b)⟩
theorem AtL.get {i : Nat} (t : AtL K S vs ds) (h : ds[i]? = some d) : ∃ v, vs[i]? = some v ∧ At K S v d := by
  have hi := (List.getElem?_eq_some_iff.mp h).1
  have hi' : i < vs.length := by rw [t.1]; exact hi
  exact ⟨vs[i], List.getElem?_eq_getElem hi', t.2 i _ _ (List.getElem?_eq_getElem hi') h⟩
theorem AtL.get' {i : Nat} (t : AtL K S vs ds) (h : vs[i]? = some v) : ∃ d, ds[i]? = some d ∧ At K S v d := by
  have hi := (List.getElem?_eq_some_iff.mp h).1
  have hi' : i < ds.length := by rw [← t.1]; exact hi
  exact ⟨ds[i], List.getElem?_eq_getElem hi', t.2 i _ _ h (List.getElem?_eq_getElem hi')⟩
theorem AtL.append : ∀ {vs ws : List V} {ds es : List D}, AtL K S vs ds → AtL K S ws es → AtL K S (vs ++ ws) (ds ++ es)
  | [], _, [], _, _, h => h
  | v :: vs, _, d :: ds, _, t, h => .cons t.head (AtL.append t.tail h)
  | [], _, d :: ds, _, t, _ => by have := t.1; simp at this
  | v :: vs, _, [], _, t, _ => by have := t.1; simp at this
theorem AtL.cut (n m : Nat) (t : AtL K S vs ds) : AtL K S ((vs.drop n).take m) ((ds.drop n).take m) := by
  refine ⟨by simp [t.1], fun i w e a b => ?_⟩
  rw [List.getElem?_take] at a b
  by_cases h : i < m
  · rw [if_pos h, List.getElem?_drop] at a b; exact t.2 _ _ _ a b
  · rw [if_neg h] at a; cases a
theorem AtL.set {i : Nat} (h : At K S v d) (t : AtL K S vs ds) : AtL K S (vs.set i v) (ds.set i d) := by
  refine ⟨by simp [t.1], fun j w e a b => ?_⟩
  rw [List.getElem?_set] at a b
  by_cases hj : i = j
  · rw [if_pos hj] at a b
    subst hj
    by_cases hl : i < vs.length
    · rw [if_pos hl] at a; rw [if_pos (by rw [← t.1]; exact hl)] at b; cases a; cases b; exact h
    · rw [if_neg hl] at a; cases a
  · rw [if_neg hj] at a b; exact t.2 _ _ _ a b
theorem AtL.strs : ∀ {vs : List V} {ss : List Str}, AtL K S vs (ss.map D.str) → vs = ss.map V.str
  | [], [], _ => rfl
  | v :: vs, s :: ss, t => by
    have h := t.head
    cases h
    rw [AtL.strs (ss := ss) t.tail]; rfl
  | [], s :: ss, t => by have := t.1; simp at this
  | v :: vs, [], t => by have := t.1; simp at this
theorem AtL.ints : ∀ {vs : List V} {ss : List Int}, AtL K S vs (ss.map D.int) → vs = ss.map V.int
  | [], [], _ => rfl
  | v :: vs, s :: ss, t => by
    have h := t.head
    cases h
    rw [AtL.ints (ss := ss) t.tail]; rfl
  | [], s :: ss, t => by have := t.1; simp at this
  | v :: vs, [], t => by have := t.1; simp at this
theorem AtL.bls : ∀ {vs : List V} {ss : List Bool}, AtL K S vs (ss.map D.bl) → vs = ss.map V.bl
  | [], [], _ => rfl
  | v :: vs, s :: ss, t => by
    have h := t.head
    cases h
    rw [AtL.bls (ss := ss) t.tail]; rfl
  | [], s :: ss, t => by have := t.1; simp at this
  | v :: vs, [], t => by have := t.1; simp at this
theorem atL_strs : ∀ (ss : List Str), AtL K S (ss.map V.str) (ss.map D.str)
  | [] => .nil
  | s :: ss => .cons (.str s) (atL_strs ss)
theorem atL_ints : ∀ (ss : List Int), AtL K S (ss.map V.int) (ss.map D.int)
  | [] => .nil
  | s :: ss => .cons (.int s) (atL_ints ss)
end

/-- an object of the abstract heap stands for an object of the store -/
def MAt (K : PySem.W.Frag) (S : Hp) (o : HO) : MO → Prop
  | .lst ds => match o with
    | .lst vs => AtL K S vs ds
    | _ => False
  | .dK es => match o with
    | .dK kvs => kvs.map (·.1) = es.map (·.1) ∧ AtL K S (kvs.map (·.2)) (es.map (·.2))
    | _ => False
  | .dT es => match o with
    | .dT kvs => kvs.map (·.1) = es.map (·.1) ∧ AtL K S (kvs.map (·.2)) (es.map (·.2))
    | _ => False
  | .lK ob kvs es => o = .frz ob (.dK kvs) ∧ kvs.map (·.1) = es.map (·.1) ∧ AtL K S (kvs.map (·.2)) (es.map (·.2))
  | .lT ob kvs es => o = .frz ob (.dT kvs) ∧ kvs.map (·.1) = es.map (·.1) ∧ AtL K S (kvs.map (·.2)) (es.map (·.2))
  | .ins C' gs => match o with
    | .ins C _ fs => C = C' ∧ fs.map (·.1) = gs.map (·.1) ∧ AtL K S (fs.map (·.2)) (gs.map (·.2))
    | _ => False
theorem MAt.mono {K : PySem.W.Frag} {S S' : Hp} (e : Le S S') {o : HO} {m : MO} (h : MAt K S o m) : MAt K S' o m := by
  cases m with
  | lK ob kvs es => exact ⟨h.1, h.2.1, AtL.mono e h.2.2⟩
  | lT ob kvs es => exact ⟨h.1, h.2.1, AtL.mono e h.2.2⟩
  | lst ds => cases o <;> first | exact AtL.mono e h | exact h.elim
  | dK ds => cases o <;> first | exact ⟨h.1, AtL.mono e h.2⟩ | exact h.elim
  | dT ds => cases o <;> first | exact ⟨h.1, AtL.mono e h.2⟩ | exact h.elim
  | ins C ds => cases o <;> first | exact ⟨h.1, h.2.1, AtL.mono e h.2.2⟩ | exact h.elim
/-- the objects that a list (a dict, an instance) of the store stands for -/
theorem MAt.lst_inv {K : PySem.W.Frag} {S : Hp} {o : HO} {ds : List D} (h : MAt K S o (.lst ds)) : ∃ vs, o = .lst vs ∧ AtL K S vs ds := by
  cases o with
  | lst vs => exact ⟨vs, rfl, h⟩
  | _ => exact h.elim
theorem MAt.ins_inv {K : PySem.W.Frag} {S : Hp} {o : HO} {C : Addr} {gs : List (Str × D)} (h : MAt K S o (.ins C gs)) : ∃ dx fs, o = .ins C dx fs ∧ fs.map (·.1) = gs.map (·.1) ∧ AtL K S (fs.map (·.2)) (gs.map (·.2)) := by
  cases o with
  | ins C' dx fs => obtain ⟨rfl, h⟩ := h; exact ⟨dx, fs, rfl, h⟩
  | _ => exact h.elim
theorem MAt.dK_inv {K : PySem.W.Frag} {S : Hp} {o : HO} {es : List (Key × D)} (h : MAt K S o (.dK es)) : ∃ kvs, o = .dK kvs ∧ kvs.map (·.1) = es.map (·.1) ∧ AtL K S (kvs.map (·.2)) (es.map (·.2)) := by
  cases o with
  | dK kvs => exact ⟨kvs, rfl, h⟩
  | _ => exact h.elim
theorem MAt.dT_inv {K : PySem.W.Frag} {S : Hp} {o : HO} {es : List (List Key × D)} (h : MAt K S o (.dT es)) : ∃ kvs, o = .dT kvs ∧ kvs.map (·.1) = es.map (·.1) ∧ AtL K S (kvs.map (·.2)) (es.map (·.2)) := by
  cases o with
  | dT kvs => exact ⟨kvs, rfl, h⟩
  | _ => exact h.elim
theorem MAt.lK_inv {K : PySem.W.Frag} {S : Hp} {o : HO} {ob : Obj} {kvs : List (Key × V)} {es : List (Key × D)} (h : MAt K S o (.lK ob kvs es)) : o = .frz ob (.dK kvs) ∧ kvs.map (·.1) = es.map (·.1) ∧ AtL K S (kvs.map (·.2)) (es.map (·.2)) := h
theorem MAt.lT_inv {K : PySem.W.Frag} {S : Hp} {o : HO} {ob : Obj} {kvs : List (List Key × V)} {es : List (List Key × D)} (h : MAt K S o (.lT ob kvs es)) : o = .frz ob (.dT kvs) ∧ kvs.map (·.1) = es.map (·.1) ∧ AtL K S (kvs.map (·.2)) (es.map (·.2)) := h
def isDic : HO → Bool
  | .dK _ => true
  | .dT _ => true
  | _ => false
/-- the abstract heap H is what never changes, S, the store μ, a rest F of the store that stays, and more -/
structure R (K : PySem.W.Frag) (S H : Hp) (μ F : Mu) : Prop where
  imm : ∀ a o, S a = some o → H a = some o
  sto : ∀ a m, μ a = some m → S a = none ∧ ∃ o, H a = some o ∧ MAt K S o m
  frm : ∀ a m, F a = some m → μ a = none ∧ S a = none ∧ ∃ o, H a = some o ∧ MAt K S o m
section
variable {K : PySem.W.Frag} {S H : Hp} {μ F : Mu} {p : Addr}
theorem R.free (r : R K S H μ F) (h : H p = none) : S p = none := by
  cases e : S p with
  | none => rfl
  | some o => have q := r.imm p o e; rw [h] at q; cases q
theorem R.freeM (r : R K S H μ F) (h : H p = none) : μ p = none := by
  cases e : μ p with
  | none => rfl
  | some o => obtain ⟨_, o', q, _⟩ := r.sto p o e; rw [h] at q; cases q
theorem R.freeF (r : R K S H μ F) (h : H p = none) : F p = none := by
  cases e : F p with
  | none => rfl
  | some o => obtain ⟨_, _, o', q, _⟩ := r.frm p o e; rw [h] at q; cases q
theorem R.lst (r : R K S H μ F) {vs : List V} (h : S p = some (.lst vs)) : H p = some (.lst vs) := r.imm p _ h
theorem R.tup (r : R K S H μ F) {vs : List V} (h : S p = some (.tup vs)) : H p = some (.tup vs) := r.imm p _ h
theorem R.ftup (r : R K S H μ F) {ob : Obj} {vs : List V} (h : S p = some (.frz ob (.tup vs))) : H p = some (.frz ob (.tup vs)) := r.imm p _ h
theorem R.ins (r : R K S H μ F) {C dx : Addr} {fs : List (Str × V)} (h : S p = some (.ins C dx fs)) : H p = some (.ins C dx fs) := r.imm p _ h
theorem R.rd (r : R K S H μ F) {o : HO} (h : S p = some o) : Rd H p o := .inl (r.imm p _ h)
theorem R.rd' (r : R K S H μ F) {o : HO} (h : Rd S p o) : Rd H p o := h.elim (fun h => .inl (r.imm p _ h)) fun ⟨ob, h⟩ => .inr ⟨ob, r.imm p _ h⟩
theorem R.sqT (r : R K S H μ F) {vs : List V} (h : SqT K S p vs) : SqT K H p vs := h.elim (fun h => .inl (r.rd' h)) .inr
theorem R.sqL (r : R K S H μ F) {vs : List V} (h : SqL K S p vs) : SqL K H p vs := h.elim (fun h => .inl (r.rd' h)) .inr
theorem sto_new {K : PySem.W.Frag} {S H : Hp} {p : Addr} {o : HO} {a : Addr} {m : MO} (h : H p = none) (hs : S p = none) (q : S a = none ∧ ∃ o, H a = some o ∧ MAt K S o m) :
    a ≠ p ∧ upd S p o a = none ∧ ∃ o', upd H p o a = some o' ∧ MAt K (upd S p o) o' m := by
  obtain ⟨h1, o', h2, h3⟩ := q
  have ha : a ≠ p := fun z => by subst z; rw [h] at h2; cases h2
  exact ⟨ha, by rw [upd_ne ha]; exact h1, o', by rw [upd_ne ha]; exact h2, h3.mono (Le.new hs)⟩
/-- a new object that never changes -/
theorem R.new (r : R K S H μ F) {o : HO} (h : H p = none) : R K (upd S p o) (upd H p o) μ F := by
  refine ⟨fun a u e => ?_, fun a m e => (sto_new h (r.free h) (r.sto a m e)).2, fun a m e => ?_⟩
  · by_cases ha : a = p
    · subst ha; rw [upd_same] at e ⊢; exact e
    · rw [upd_ne ha] at e ⊢; exact r.imm a u e
  · obtain ⟨h0, q⟩ := r.frm a m e
    exact ⟨h0, (sto_new h (r.free h) q).2⟩
theorem imm_ne (r : R K S H μ F) {o u : HO} {a : Addr} (hs : S p = none) (e : S a = some u) : upd H p o a = some u := by
  have ha : a ≠ p := fun z => by subst z; rw [hs] at e; cases e
  rw [upd_ne ha]; exact r.imm a u e
/-- a new object of the store -/
theorem R.newM (r : R K S H μ F) {o : HO} {m : MO} (h : H p = none) (hm : MAt K S o m) : R K S (upd H p o) (updM μ p m) F := by
  refine ⟨fun a u e => imm_ne r (r.free h) e, fun a m' e => ?_, fun a m' e => ?_⟩
  · by_cases ha : a = p
    · subst ha; rw [updM_same] at e; cases e
      exact ⟨r.free h, o, upd_same, hm⟩
    · rw [updM_ne ha] at e; rw [upd_ne ha]; exact r.sto a m' e
  · obtain ⟨h0, h1, o', h2, h3⟩ := r.frm a m' e
    have ha : a ≠ p := fun z => by subst z; rw [h] at h2; cases h2
    exact ⟨by rw [updM_ne ha]; exact h0, h1, o', by rw [upd_ne ha]; exact h2, h3⟩
/-- a new object that is forgotten -/
theorem R.newF (r : R K S H μ F) {o : HO} (h : H p = none) : R K S (upd H p o) μ F := by
  refine ⟨fun a u e => imm_ne r (r.free h) e, fun a m' e => ?_, fun a m' e => ?_⟩
  · obtain ⟨h1, o', h2, h3⟩ := r.sto a m' e
    have ha : a ≠ p := fun z => by subst z; rw [h] at h2; cases h2
    exact ⟨h1, o', by rw [upd_ne ha]; exact h2, h3⟩
  · obtain ⟨h0, h1, o', h2, h3⟩ := r.frm a m' e
    have ha : a ≠ p := fun z => by subst z; rw [h] at h2; cases h2
    exact ⟨h0, h1, o', by rw [upd_ne ha]; exact h2, h3⟩
/-- an object of the store is written -/
theorem R.write (r : R K S H μ F) {o : HO} {m m0 : MO} (h : μ p = some m0) (hm : MAt K S o m) : R K S (upd H p o) (updM μ p m) F := by
  obtain ⟨hs, _⟩ := r.sto p m0 h
  refine ⟨fun a u e => imm_ne r hs e, fun a m' e => ?_, fun a m' e => ?_⟩
  · by_cases ha : a = p
    · subst ha; rw [updM_same] at e; cases e
      exact ⟨hs, o, upd_same, hm⟩
    · rw [updM_ne ha] at e; rw [upd_ne ha]; exact r.sto a m' e
  · obtain ⟨h0, h1, o', h2, h3⟩ := r.frm a m' e
    have ha : a ≠ p := fun z => by subst z; rw [h] at h0; cases h0
    exact ⟨by rw [updM_ne ha]; exact h0, h1, o', by rw [upd_ne ha]; exact h2, h3⟩
/-- an object of the rest is written (by whoever knows it) -/
theorem R.writeF (r : R K S H μ F) {o : HO} {m m0 : MO} (h : F p = some m0) (hm : MAt K S o m) : R K S (upd H p o) μ (updM F p m) := by
  obtain ⟨hμ, hs, _⟩ := r.frm p m0 h
  refine ⟨fun a u e => imm_ne r hs e, fun a m' e => ?_, fun a m' e => ?_⟩
  · have ha : a ≠ p := fun z => by subst z; rw [hμ] at e; cases e
    obtain ⟨h1, o', h2, h3⟩ := r.sto a m' e
    exact ⟨h1, o', by rw [upd_ne ha]; exact h2, h3⟩
  · by_cases ha : a = p
    · subst ha; rw [updM_same] at e; cases e
      exact ⟨hμ, hs, o, upd_same, hm⟩
    · rw [updM_ne ha] at e; rw [upd_ne ha]; exact r.frm a m' e
/-- a new object of the rest -/
theorem R.newR (r : R K S H μ F) {o : HO} {m : MO} (h : H p = none) (hm : MAt K S o m) : R K S (upd H p o) μ (updM F p m) := by
  refine ⟨fun a u e => imm_ne r (r.free h) e, fun a m' e => ?_, fun a m' e => ?_⟩
  · obtain ⟨h1, o', h2, h3⟩ := r.sto a m' e
    have ha : a ≠ p := fun z => by subst z; rw [h] at h2; cases h2
    exact ⟨h1, o', by rw [upd_ne ha]; exact h2, h3⟩
  · by_cases ha : a = p
    · subst ha; rw [updM_same] at e; cases e
      exact ⟨r.freeM h, r.free h, o, upd_same, hm⟩
    · rw [updM_ne ha] at e; rw [upd_ne ha]; exact r.frm a m' e
/-- an object of the store changes no more -/
theorem R.freeze (r : R K S H μ F) {o : HO} (h : H p = some o) (hs : S p = none) (hf : F p = none) : R K (upd S p o) H (delM μ p) F := by
  refine ⟨fun a u e => ?_, fun a m' e => ?_, fun a m' e => ?_⟩
  · by_cases ha : a = p
    · subst ha; rw [upd_same] at e; cases e; exact h
    · rw [upd_ne ha] at e; exact r.imm a u e
  · unfold delM at e
    by_cases ha : a = p
    · rw [if_pos ha] at e; cases e
    · rw [if_neg ha] at e
      obtain ⟨h1, o', h2, h3⟩ := r.sto a m' e
      exact ⟨by rw [upd_ne ha]; exact h1, o', h2, h3.mono (Le.new hs)⟩
  · obtain ⟨h0, h1, o', h2, h3⟩ := r.frm a m' e
    have ha : a ≠ p := fun z => by subst z; rw [hf] at e; cases e
    exact ⟨by unfold delM; rw [if_neg ha]; exact h0, by rw [upd_ne ha]; exact h1, o', h2, h3.mono (Le.new hs)⟩
theorem R.freezeF (r : R K S H μ F) {o : HO} (h : H p = some o) (hs : S p = none) (hm : μ p = none) : R K (upd S p o) H μ (delM F p) := by
  refine ⟨fun a u e => ?_, fun a m' e => ?_, fun a m' e => ?_⟩
  · by_cases ha : a = p
    · subst ha; rw [upd_same] at e; cases e; exact h
    · rw [upd_ne ha] at e; exact r.imm a u e
  · have ha : a ≠ p := fun z => by subst z; rw [hm] at e; cases e
    obtain ⟨h1, o', h2, h3⟩ := r.sto a m' e
    exact ⟨by rw [upd_ne ha]; exact h1, o', h2, h3.mono (Le.new hs)⟩
  · unfold delM at e
    by_cases ha : a = p
    · rw [if_pos ha] at e; cases e
    · rw [if_neg ha] at e
      obtain ⟨h0, h1, o', h2, h3⟩ := r.frm a m' e
      exact ⟨h0, by rw [upd_ne ha]; exact h1, o', h2, h3.mono (Le.new hs)⟩
/-- a dict of the store changes no more: it stands locked from now on -/
theorem R.freezeD (r : R K S H μ F) {o : HO} {ob : Obj} (h : H p = some o) (hs : S p = none) (hf : F p = none) : R K (upd S p (.frz ob o)) (upd H p (.frz ob o)) (delM μ p) F := by
  refine ⟨fun a u e => ?_, fun a m' e => ?_, fun a m' e => ?_⟩
  · by_cases ha : a = p
    · subst ha; rw [upd_same] at e ⊢; exact e
    · rw [upd_ne ha] at e; rw [upd_ne ha]; exact r.imm a u e
  · unfold delM at e
    by_cases ha : a = p
    · rw [if_pos ha] at e; cases e
    · rw [if_neg ha] at e
      obtain ⟨h1, o', h2, h3⟩ := r.sto a m' e
      exact ⟨by rw [upd_ne ha]; exact h1, o', by rw [upd_ne ha]; exact h2, h3.mono (Le.new hs)⟩
  · obtain ⟨h0, h1, o', h2, h3⟩ := r.frm a m' e
    have ha : a ≠ p := fun z => by subst z; rw [hf] at e; cases e
    exact ⟨by unfold delM; rw [if_neg ha]; exact h0, by rw [upd_ne ha]; exact h1, o', by rw [upd_ne ha]; exact h2, h3.mono (Le.new hs)⟩
/-- what never changes and is there already is known from now on (tuples) -/
theorem R.adopt (r : R K S H μ F) {vs : List V} (h : H p = some (.tup vs)) : ∃ S', Le S S' ∧ R K S' H μ F ∧ S' p = some (.tup vs) := by
  cases e : S p with
  | some o =>
    have q := r.imm p o e
    rw [h] at q
    cases q
    exact ⟨S, Le.refl S, r, e⟩
  | none =>
    refine ⟨upd S p (.tup vs), Le.new e, ⟨fun a u z => ?_, fun a m z => ?_, fun a m z => ?_⟩, upd_same⟩
    · by_cases ha : a = p
      · subst ha; rw [upd_same] at z; cases z; exact h
      · rw [upd_ne ha] at z; exact r.imm a u z
    · obtain ⟨h1, o', h2, h3⟩ := r.sto a m z
      have ha : a ≠ p := fun w => by subst w; rw [h] at h2; cases h2; cases m <;> first | exact h3.elim | cases h3.1
      exact ⟨by rw [upd_ne ha]; exact h1, o', h2, h3.mono (Le.new e)⟩
    · obtain ⟨h0, h1, o', h2, h3⟩ := r.frm a m z
      have ha : a ≠ p := fun w => by subst w; rw [h] at h2; cases h2; cases m <;> first | exact h3.elim | cases h3.1
      exact ⟨h0, by rw [upd_ne ha]; exact h1, o', h2, h3.mono (Le.new e)⟩
/-- the store forgets -/
theorem R.forget (r : R K S H μ F) {μ' : Mu} (h : ∀ a m, μ' a = some m → μ a = some m) : R K S H μ' F := by
  refine ⟨r.imm, fun a m e => r.sto a m (h a m e), fun a m e => ⟨?_, (r.frm a m e).2⟩⟩
  cases z : μ' a with
  | none => rfl
  | some u =>
    have q := (r.frm a m e).1
    rw [h a u z] at q
    cases q
/-- the rest forgets -/
theorem R.forgetF (r : R K S H μ F) {F' : Mu} (h : ∀ a m, F' a = some m → F a = some m) : R K S H μ F' := ⟨r.imm, r.sto, fun a m e => r.frm a m (h a m e)⟩
end

/-- what an exception carries -/
def XAt (K : PySem.W.Frag) (S : Hp) : Option Addr → List (Str × D) → Prop
  | none, gs => gs = []
  | some d, gs => ∃ fs : List (Str × V), S d = some (.xd fs) ∧ fs.map (·.1) = gs.map (·.1) ∧ AtL K S (fs.map (·.2)) (gs.map (·.2))
theorem XAt.mono {K : PySem.W.Frag} {S S' : Hp} (e : Le S S') {d : Option Addr} {gs : List (Str × D)} (h : XAt K S d gs) : XAt K S' d gs := by
  cases d with
  | none => exact h
  | some d => obtain ⟨fs, h1, h2, h3⟩ := h; exact ⟨fs, e _ _ h1, h2, h3.mono e⟩

abbrev Ga := List (Option D)
def Env (K : PySem.W.Frag) (S : Hp) (σ : St) (γ : Ga) : Prop := σ.length = γ.length ∧ ∀ (i : Nat) d, γ[i]? = some (some d) → ∃ v, σ[i]? = some (some v) ∧ At K S v d
theorem Env.mono {K : PySem.W.Frag} {S S' : Hp} (e : Le S S') {σ : St} {γ : Ga} (h : Env K S σ γ) : Env K S' σ γ := ⟨h.1, fun i d a => let ⟨v, h1, h2⟩ := h.2 i d a; ⟨v, h1, h2.mono e⟩⟩
theorem Env.set {K : PySem.W.Frag} {S : Hp} {σ : St} {γ : Ga} {i : Nat} {v : V} {d : D} (h : Env K S σ γ) (a : At K S v d) : Env K S (σ.set i (some v)) (γ.set i (some d)) := by
  refine ⟨by simp [h.1], fun j e q => ?_⟩
  rw [List.getElem?_set] at q
  by_cases hj : i = j
  · subst hj
    rw [if_pos rfl] at q
    by_cases hl : i < γ.length
    · rw [if_pos hl] at q; cases q
      exact ⟨v, by rw [List.getElem?_set, if_pos rfl, if_pos (by rw [h.1]; exact hl)], a⟩
    · rw [if_neg hl] at q; cases q
  · rw [if_neg hj] at q
    rw [List.getElem?_set, if_neg hj]; exact h.2 j e q
theorem Env.clear {K : PySem.W.Frag} {S : Hp} {σ : St} {γ : Ga} {i : Nat} {x : Option V} (h : Env K S σ γ) : Env K S (σ.set i x) (γ.set i none) := by
  refine ⟨by simp [h.1], fun j e q => ?_⟩
  rw [List.getElem?_set] at q
  by_cases hj : i = j
  · subst hj
    rw [if_pos rfl] at q
    by_cases hl : i < γ.length
    · rw [if_pos hl] at q; cases q
    · rw [if_neg hl] at q; cases q
  · rw [if_neg hj] at q
    rw [List.getElem?_set, if_neg hj]; exact h.2 j e q
theorem Env.start {K : PySem.W.Frag} {S : Hp} {vs : List V} {ds : List D} (h : AtL K S vs ds) (N : List Str) : Env K S (L2.start N vs) (ds.map some ++ List.replicate (N.length - ds.length) none) := by
  refine ⟨by unfold L2.start; simp [h.1], fun i d q => ?_⟩
  by_cases hi : i < ds.length
  · rw [List.getElem?_append_left (by simpa using hi), List.getElem?_map] at q
    cases e : ds[i]? with
    | none => rw [e] at q; cases q
    | some d' =>
      rw [e] at q; cases q
      obtain ⟨v, h1, h2⟩ := h.get e
      exact ⟨v, by unfold L2.start; rw [List.getElem?_append_left (by simp [h.1]; exact hi), List.getElem?_map, h1]; rfl, h2⟩
  · rw [List.getElem?_append_right (by simpa using Nat.le_of_not_lt hi), List.getElem?_replicate] at q
    split at q <;> cases q

abbrev XD := Ga → Value → List (Str × D) → Mu → Prop
abbrev KD := D → Mu → Prop
abbrev TD := Ga → Mu → XD → KD → Prop
abbrev TDT := Ga → Mu → XD → (Bool → Mu → Prop) → Prop
abbrev TDA := Ga → Mu → XD → (List D → Mu → Prop) → Prop
structure DEnds where
  nx : Ga → Mu → Prop
  rt : KD
  bk : Ga → Mu → Prop := fun _ _ => False
  ct : Ga → Mu → Prop := fun _ _ => False
abbrev TDS := DEnds → Ga → Mu → XD → Prop
abbrev TDG := D → Ga → Mu → XD → (Ga → Mu → Prop) → Prop

def XOk (K : PySem.W.Frag) (S : Hp) (F : Mu) (W : WX) (Ξ : XD) : Prop := ∀ S' H' σ γ cls xd fs μ', Le S S' → Env K S' σ γ → R K S' H' μ' F → XAt K S' xd fs → Ξ γ cls fs μ' → W cls xd σ H'
theorem XOk.mono {K : PySem.W.Frag} {S S' : Hp} {F : Mu} {W : WX} {Ξ : XD} (e : Le S S') (h : XOk K S F W Ξ) : XOk K S' F W Ξ := fun S2 H2 σ γ cls xd fs μ e2 => h S2 H2 σ γ cls xd fs μ (e.trans e2)
def tD (K : PySem.W.Frag) (W : WX) (w : TD) : TE := fun σ H Q => ∃ S γ μ F Ξ Φ, Env K S σ γ ∧ R K S H μ F ∧ XOk K S F W Ξ ∧ w γ μ Ξ Φ ∧ ∀ S' H' v d μ', Le S S' → R K S' H' μ' F → At K S' v d → Φ d μ' → Q v H'
def tDT (K : PySem.W.Frag) (W : WX) (w : TDT) : TT := fun σ H Q => ∃ S γ μ F Ξ Φ, Env K S σ γ ∧ R K S H μ F ∧ XOk K S F W Ξ ∧ w γ μ Ξ Φ ∧ ∀ S' H' b μ', Le S S' → R K S' H' μ' F → Φ b μ' → Q b H'
def tDA (K : PySem.W.Frag) (W : WX) (w : TDA) : TA := fun σ H Q => ∃ S γ μ F Ξ Φ, Env K S σ γ ∧ R K S H μ F ∧ XOk K S F W Ξ ∧ w γ μ Ξ Φ ∧ ∀ S' H' vs ds μ', Le S S' → R K S' H' μ' F → AtL K S' vs ds → Φ ds μ' → Q vs H'
structure EOk (K : PySem.W.Frag) (S : Hp) (F : Mu) (DD : DEnds) (D : Ends) : Prop where
  nx : ∀ S' H' σ γ μ, Le S S' → Env K S' σ γ → R K S' H' μ F → DD.nx γ μ → D.nx σ H'
  rt : ∀ S' H' v d μ, Le S S' → R K S' H' μ F → At K S' v d → DD.rt d μ → D.rt v H'
  bk : ∀ S' H' σ γ μ, Le S S' → Env K S' σ γ → R K S' H' μ F → DD.bk γ μ → D.bk σ H'
  ct : ∀ S' H' σ γ μ, Le S S' → Env K S' σ γ → R K S' H' μ F → DD.ct γ μ → D.ct σ H'
theorem EOk.mono {K : PySem.W.Frag} {S S' : Hp} {F : Mu} {DD : DEnds} {D : Ends} (e : Le S S') (h : EOk K S F DD D) : EOk K S' F DD D :=
  ⟨fun S2 H2 σ γ μ e2 => h.nx S2 H2 σ γ μ (e.trans e2), fun S2 H2 v d μ e2 => h.rt S2 H2 v d μ (e.trans e2), fun S2 H2 σ γ μ e2 => h.bk S2 H2 σ γ μ (e.trans e2), fun S2 H2 σ γ μ e2 => h.ct S2 H2 σ γ μ (e.trans e2)⟩
def tDS (K : PySem.W.Frag) (W : WX) (w : TDS) : TS := fun D σ H => ∃ S γ μ F Ξ DD, Env K S σ γ ∧ R K S H μ F ∧ XOk K S F W Ξ ∧ w DD γ μ Ξ ∧ EOk K S F DD D
def tDG (K : PySem.W.Frag) (W : WX) (w : TDG) : TG := fun v σ H Q => ∃ S γ μ F Ξ Φ d, Env K S σ γ ∧ R K S H μ F ∧ XOk K S F W Ξ ∧ At K S v d ∧ w d γ μ Ξ Φ ∧ ∀ S' H' σ' γ' μ', Le S S' → Env K S' σ' γ' → R K S' H' μ' F → Φ γ' μ' → Q σ' H'

/-! ### weakening of the hand layer's readings -/
section
variable {X : Cx}
theorem pe_imp {e : Expr} {t t' : TE} (h : PE X e t) (i : ∀ σ H Q, t' σ H Q → t σ H Q) : PE X e t' := ⟨fun p s σ H Q I q => h.run p s σ H Q I (i σ H Q q)⟩
theorem pt_imp {e : Expr} {t t' : TT} (h : PT X e t) (i : ∀ σ H Q, t' σ H Q → t σ H Q) : PT X e t' := ⟨fun p s σ H Q I q => h.run p s σ H Q I (i σ H Q q)⟩
theorem pw_imp {e : Expr} {t t' : TT} (h : PW X e t) (i : ∀ σ H Q, t' σ H Q → t σ H Q) : PW X e t' := ⟨fun wh p s σ H Q I q => h.run wh p s σ H Q I (i σ H Q q)⟩
theorem pa_imp {e : List Expr} {t t' : TA} (h : PA X e t) (i : ∀ σ H Q, t' σ H Q → t σ H Q) : PA X e t' := ⟨fun po p s σ H Q I q => h.run po p s σ H Q I (i σ H Q q)⟩
theorem ps_imp {e : Stmt} {t t' : TS} (h : PS X e t) (i : ∀ D σ H, t' D σ H → t D σ H) : PS X e t' := ⟨fun p s σ H D I q => h.run p s σ H D I (i D σ H q)⟩
theorem pss_imp {e : List Stmt} {t t' : TS} (h : PSs X e t) (i : ∀ D σ H, t' D σ H → t D σ H) : PSs X e t' := ⟨fun p s σ H D I q => h.run p s σ H D I (i D σ H q)⟩
theorem pg_imp {e : Expr} {t t' : TG} (h : PG X e t) (i : ∀ v σ H Q, t' v σ H Q → t v σ H Q) : PG X e t' := ⟨fun p s σ H v u Q I r q => h.run p s σ H v u Q I r (i v σ H Q q)⟩
end
end DL

/-! # DL2: operators that the text's own classes define, at the hand layer's level -/
namespace DL
open PySem L2

section
variable {X : Cx} {pins : List (Addr × Obj)} {σ : L2.St} {H : Hp} {s : Shared} {CX : CXT} {n : Nat} {f C : Addr} {fd : FuncData} {ps : List Str} {sp : Sp} {A : Around} {E : XK}
/-- a def of the text, called at A, below the running body -/
theorem run_sub {us : List Value} {vs : List V} {Q : VK} (F : FnR X.prog X.w X.K X.mg X.base CX n f sp) (sb : Sub X n A) (hx : PassesAt CX X σ E)
    (I : Inv X pins σ H s) (r : Vals vs us) (h : sp vs H Q E) : wpAny (model X.prog X.w) A (call (.ref f) us) (EP X pins σ Q) X.xe s := by
  have e0 : Env0 X.prog X.w X.K X.mg X.base A X.stack s H := by
    have e := I.env0
    exact ⟨by rw [sb.fr]; exact e.frames, e.mod, e.bs, e.bsz, e.funs, e.frf, e.hok, e.bare⟩
  refine wpAny_call (codeAny_mono (F A X.stack s H us vs Q E sb.room e0 r h) fun r s' hq => ?_)
  cases r with
  | error e => exact hx pins H s e s' I hq
  | ok fl =>
    cases fl with
    | ret u => exact I.after hq
    | next => exact False.elim hq
    | brk => exact False.elim hq
    | cont => exact False.elim hq
theorem passAt0 {X : Cx} (σ : L2.St) : PassesAt (L2.CX X.prog X.w) X σ E0 := fun _ _ _ _ _ _ h => by
  obtain ⟨_, _, _, _, _, _, _, _, _, _, _, _, z⟩ := h
  exact z.elim
theorem back_of {Q : VK} {v : Value} {s' : Shared} (h : EP X pins σ Q v s') : PySem.W.CmpBack (EP X pins σ Q) v s' := by
  obtain ⟨x, H', I, r, q⟩ := h
  cases x with
  | non => cases r; exact ⟨.non, H', I, rfl, q⟩
  | bl b => cases r; exact ⟨.bl b, H', I, rfl, q⟩
  | int i => obtain ⟨t, rfl⟩ := r; exact ⟨.int i, H', I, ⟨t, rfl⟩, q⟩
  | str i => obtain ⟨t, rfl⟩ := r; exact ⟨.str i, H', I, ⟨t, rfl⟩, q⟩
  | byt i => obtain ⟨t, rfl⟩ := r; exact ⟨.byt i, H', I, ⟨t, rfl⟩, q⟩
  | flt i => obtain ⟨t, rfl⟩ := r; exact ⟨.flt i, H', I, ⟨t, rfl⟩, q⟩
  | ref a => cases r; exact ⟨.ref a, H', I, rfl, q⟩
  | ty n => cases r; exact ⟨.ty n, H', I, rfl, q⟩
/-- an instance of the class at C stands at a -/
def InsAt (H : Hp) (C a : Addr) : Prop := ∃ dx fs, H a = some (.ins C dx fs)
theorem ins_at {a : Addr} (I : Inv X pins σ H s) (h : InsAt H C a) : ∃ od : Addr × Obj, PySem.W.InstAt s.heap a (PySem.W.instObj C od.1) C (some od.2) := by
  obtain ⟨dx, fs, h⟩ := h
  obtain ⟨mA, J, _⟩ := ins_get I.hok h
  obtain ⟨od, J, _⟩ := J.look
  exact ⟨(dx, od), J⟩
/-- a method of the class at C that stands behind an operator -/
structure OwnM (K : PySem.W.Frag) (C : Addr) (m : Str) (f : Addr) : Prop where
  at_ : PySem.W.findIn K (.ref C) m = some (some (.ref f))
  fn : PySem.W.isFn K (.ref f) = true
/-- a | b, both of the class at C -/
def rOwnB (C : Addr) (sp : Sp) : R2 := fun x y H Q => ∃ a b, x = .ref a ∧ y = .ref b ∧ InsAt H C a ∧ InsAt H C b ∧ sp [x, y] H Q E0
theorem op_ownB {op : Operator} (hm : OwnM X.K C (PySem.dunder op.info.2) f) (hc : PySem.W.selfFirst X.K C = true) (F : FnR X.prog X.w X.K X.mg X.base (L2.CX X.prog X.w) n f sp) (hr : Room n X.A) :
    OpR X (binaryOp op) (rOwnB C sp) := by
  intro pins s σ H x y v u Q I rx ry h
  obtain ⟨a, b, rfl, rfl, ha, hb', hsp⟩ := h
  cases rx
  cases ry
  obtain ⟨od, J⟩ := ins_at I ha
  obtain ⟨od', J'⟩ := ins_at I hb'
  obtain ⟨m, hF⟩ := I.fr
  refine PySem.W.binop_K hF I.ok.mod.kin J J'.type hc hm.at_ hm.fn ?_
  exact thn (run_sub (vs := [V.ref a, V.ref b]) F ⟨hr, rfl⟩ (passAt0 σ) I (.cons rfl (.cons rfl .nil)) hsp) fun v s' q => back_of q
/-- a op= b by an own method of the class at C -/
def rOwnI (C : Addr) (sp : Sp) : R2 := fun x y H Q => ∃ a, x = .ref a ∧ InsAt H C a ∧ sp [x, y] H Q E0
theorem in_ownI {op : Operator} (hm : OwnM X.K C (dunderI op.info.2) f) (hc : PySem.W.selfFirst X.K C = true) (F : FnR X.prog X.w X.K X.mg X.base (L2.CX X.prog X.w) n f sp) (hr : Room n X.A) :
    OpR X (inplaceOp op) (rOwnI C sp) := by
  intro pins s σ H x y v u Q I rx ry h
  obtain ⟨a, rfl, ha, hsp⟩ := h
  cases rx
  obtain ⟨od, J⟩ := ins_at I ha
  obtain ⟨m, hF⟩ := I.fr
  refine PySem.W.ksp_inplace hF I.ok.mod.kin J hc hm.at_ hm.fn ?_
  exact thn (run_sub (vs := [V.ref a, y]) F ⟨hr, rfl⟩ (passAt0 σ) I (.cons rfl (.cons ry .nil)) hsp) fun v s' q => back_of q
/-- a == b, a <= b .. by an own method; b an instance of the same class -/
theorem op_ownC {op : CmpOp} (hop : ∀ v u, compareOp op v u = richCompare op v u) (hm : OwnM X.K C (cmpInfo op).2.1 f) (hn : PySem.W.notFirst X.K C (.ref C) = true) (F : FnR X.prog X.w X.K X.mg X.base (L2.CX X.prog X.w) n f sp) (hr : Room n X.A) :
    OpR X (compareOp op) (rOwnB C sp) := by
  intro pins s σ H x y v u Q I rx ry h
  obtain ⟨a, b, rfl, rfl, ha, hb', hsp⟩ := h
  cases rx
  cases ry
  obtain ⟨od, J⟩ := ins_at I ha
  obtain ⟨od', J'⟩ := ins_at I hb'
  obtain ⟨m, hF⟩ := I.fr
  rw [hop]
  refine PySem.W.cmp_K hr.units0 hF I.ok.mod.kin J J'.type hn hm.at_ hm.fn ?_
  exact thn (run_sub (vs := [V.ref a, V.ref b]) F ⟨hr, rfl⟩ (passAt0 σ) I (.cons rfl (.cons rfl .nil)) hsp) fun v s' q => back_of q
/-- len(o) -/
def rOwnLen (C : Addr) (sp : Sp) : List V → Hp → VK → Prop := fun xs H Q => ∃ a, xs = [.ref a] ∧ InsAt H C a ∧ sp xs H (fun v H' => ∃ i : Int, v = .int i ∧ 0 ≤ i ∧ i < 2 ^ 63 ∧ Q v H') E0
theorem lenBack {Q : VK} {v : Value} {s' : Shared} (h : EP X pins σ (fun v H' => ∃ i : Int, v = .int i ∧ 0 ≤ i ∧ i < 2 ^ 63 ∧ Q v H') v s') : PySem.W.LenBack (EP X pins σ Q) v s' := by
  obtain ⟨x, H', I, r, i, rfl, h0, h1, q⟩ := h
  obtain ⟨t, rfl⟩ := r
  exact ⟨⟨h0, h1⟩, .int i, H', I.tok _, ⟨_, rfl⟩, q⟩
theorem call_ownLen (hm : OwnM X.K C "__len__" f) (F : FnR X.prog X.w X.K X.mg X.base (L2.CX X.prog X.w) n f sp) (hr : Room (n + 1) X.A) : CallR X (.builtin "len") (rOwnLen C sp) := by
  intro pins s σ H xs us Q I r h
  obtain ⟨a, rfl, ha, hsp⟩ := h
  obtain rfl := Vals.ref1 r
  obtain ⟨od, J⟩ := ins_at I ha
  obtain ⟨m, hF⟩ := I.fr
  refine PySem.W.len_K hF I.ok.mod.kin J hm.at_ hm.fn ?_
  exact thn (run_sub (vs := [V.ref a]) F ⟨hr.in1, rfl⟩ (passAt0 σ) I (.cons rfl .nil) hsp) fun v s' q => lenBack q
/-- y in o -/
def rOwnIn (C : Addr) (sp : Sp) (neg : Bool) : R2 := fun y x H Q => ∃ a, x = .ref a ∧ InsAt H C a ∧ sp [x, y] H (fun v H' => ∃ b, v = .bl b ∧ Q (.bl (if neg then !b else b)) H') E0
theorem op_ownIn (hm : OwnM X.K C "__contains__" f) (F : FnR X.prog X.w X.K X.mg X.base (L2.CX X.prog X.w) n f sp) (hr : Room n X.A) : OpR X (compareOp .In) (rOwnIn C sp false) := by
  intro pins s σ H y x v u Q I ry rx h
  obtain ⟨a, rfl, ha, hsp⟩ := h
  cases rx
  obtain ⟨od, J⟩ := ins_at I ha
  obtain ⟨m, hF⟩ := I.fr
  refine PySem.W.in_K hF I.ok.mod.kin J hm.at_ hm.fn ?_
  refine thn (run_sub (vs := [V.ref a, y]) F ⟨hr, rfl⟩ (passAt0 σ) I (.cons rfl (.cons ry .nil)) hsp) fun v s' q => ?_
  obtain ⟨z, H', I', rz, b, rfl, q⟩ := q
  cases rz
  exact wpAny_truthy_bool ⟨.bl b, H', I', rfl, q⟩
theorem op_ownNotIn (hm : OwnM X.K C "__contains__" f) (F : FnR X.prog X.w X.K X.mg X.base (L2.CX X.prog X.w) n f sp) (hr : Room n X.A) : OpR X (compareOp .NotIn) (rOwnIn C sp true) := by
  intro pins s σ H y x v u Q I ry rx h
  obtain ⟨a, rfl, ha, hsp⟩ := h
  cases rx
  obtain ⟨od, J⟩ := ins_at I ha
  obtain ⟨m, hF⟩ := I.fr
  refine PySem.W.notIn_K hF I.ok.mod.kin J hm.at_ hm.fn ?_
  refine thn (run_sub (vs := [V.ref a, y]) F ⟨hr, rfl⟩ (passAt0 σ) I (.cons rfl (.cons ry .nil)) hsp) fun v s' q => ?_
  obtain ⟨z, H', I', rz, b, rfl, q⟩ := q
  cases rz
  exact wpAny_truthy_bool ⟨.bl (!b), H', I', rfl, q⟩

/-! ### list(o), o of a class whose __iter__ gives a list's iterator, and which has __len__ -/
theorem pyNext_end2 {prog : Program} {w : World} {A : Around} {E : Value → Shared → Prop} {s : Shared} {it l : Addr} {i : Nat} {items : Array Value} {Q : Option Value → Shared → Prop} (hh : A.handled = none)
    (hit : s.heap.IsListIter it l i) (hl : s.heap.IsList l items) (hx : items[i]? = none)
    (hQ : ∀ h', Heap.ExtBut it s.heap h' → (∃ o, h'.get? it = some o) → Q none { s with heap := h' }) : wpAny (model prog w) A (pyNext (.ref it)) Q E s := by
  obtain ⟨o, ho, hc, hd⟩ := id hit
  obtain ⟨ol, hol, _, nl, hdl⟩ := hl
  unfold pyNext
  refine wpAny_bind (wpAny_attempt (wpAny_callSpecial?_slot (name := Str.ofString "__next__") hit.typeIs slot_listiter_next (wpAny_call_entry slot_listiter_next hit.typeIs entry_listiter_next ?_ (args_listiter_next _))))
  show wpAny _ _ (field (.ref it) 0 >>= _) _ _ s
  refine wpAny_bind (wpAny_field ho hd (x := .ref l) rfl ?_)
  show wpAny _ _ (if (Value.ref l == Value.none) = true then _ else _) _ _ s
  rw [if_neg (show ¬ ((Value.ref l == Value.none) = true) from Bool.false_ne_true)]
  show wpAny _ _ (field (.ref it) 1 >>= _) _ _ s
  refine wpAny_bind (wpAny_field ho hd (x := .int i 0) rfl ?_)
  show wpAny _ _ (seqItems? (.ref l) >>= _) _ _ s
  refine wpAny_bind (wpAny_seqItems hol hdl ?_)
  simp only [Int.toNat_natCast, hx]
  refine wpAny_bind (wpAny_rule (wpAny_bind (wpAny_setField ho hd (by simp) ?_)))
  show wpAny _ _ (newExc (.type "StopIteration") [] >>= _) _ _ _
  refine wpAny_bind ?_
  simp only [newExc, newTuple]
  refine wpAny_bind (wpAny_newObj_type ?_ (by size_fits))
  refine wpAny_bind (m := firstArgMember _ _) (wpAny_of_eq (a := Value.none) (by first | rfl | (simp only [firstArgMember]; rfl)) ?_)
  refine wpAny_newObj_type ?_ (by size_fits)
  simp only [raiseNew]
  refine wpAny_bind (wpAny_handled ?_)
  rw [show A.in1.handled = none from hh]
  refine wpAny_bind (wpAny_pure (wpAny_throw ?_))
  refine wpAny_bind (wpAny_isInstance (T := "StopIteration") (b := true) ⟨_, Heap.get?_push_size _ rfl, rfl⟩ isSubtype_stop ?_)
  exact wpAny_pure (hQ _ (((Heap.SameBut.update ..).extBut.push _).push _) ⟨_, Heap.get?_push_of_some _ (Heap.get?_push_of_some _ (Heap.get?_update_self _ ho (Obj.isFreed_of_fields (Obj.data_mapFields hd _))))⟩)

theorem pyNext_item2 {prog : Program} {w : World} {A : Around} {E : Value → Shared → Prop} {s : Shared} {it l : Addr} {i : Nat} {items : Array Value} {x : Value} {Q : Option Value → Shared → Prop}
    (ho : s.heap.get? it = some (GNX.itObj l i)) (hl : s.heap.IsList l items) (hx : items[i]? = some x)
    (hQ : ∀ h', h'.get? it = some (GNX.itObj l (i + 1)) → Heap.SameBut it s.heap h' → Q (some x) { s with heap := h' }) : wpAny (model prog w) A (pyNext (.ref it)) Q E s := by
  have hit : s.heap.IsListIter it l i := ⟨_, ho, rfl, rfl⟩
  obtain ⟨ol, hol, _, nl, hdl⟩ := hl
  unfold pyNext
  refine wpAny_bind (wpAny_attempt (wpAny_callSpecial?_slot (name := Str.ofString "__next__") hit.typeIs slot_listiter_next (wpAny_call_entry slot_listiter_next hit.typeIs entry_listiter_next ?_ (args_listiter_next _))))
  show wpAny _ _ (field (.ref it) 0 >>= _) _ _ s
  refine wpAny_bind (wpAny_field ho rfl (x := .ref l) rfl ?_)
  show wpAny _ _ (if (Value.ref l == Value.none) = true then _ else _) _ _ s
  rw [if_neg (show ¬ ((Value.ref l == Value.none) = true) from Bool.false_ne_true)]
  show wpAny _ _ (field (.ref it) 1 >>= _) _ _ s
  refine wpAny_bind (wpAny_field ho rfl (x := .int i 0) rfl ?_)
  show wpAny _ _ (seqItems? (.ref l) >>= _) _ _ s
  refine wpAny_bind (wpAny_seqItems hol hdl ?_)
  simp only [Int.toNat_natCast, hx]
  refine wpAny_bind (wpAny_setField ho rfl (by simp) (wpAny_pure ⟨x, rfl, wpAny_pure (hQ _ ?_ (Heap.SameBut.update ..))⟩))
  rw [Heap.get?_update_self _ ho (by rfl)]
  exact congrArg some (GNX.next_obj l i)

/-! ### calls by their values, the wish about exceptions at the slots -/
abbrev RS := L2.St → List V → Hp → VK → Prop
/-- f(vs), f an object -/
def CallS (X : Cx) (f : Addr) (r : RS) : Prop := ∀ (pins : List (Addr × Obj)) (s : Shared) (σ : L2.St) (H : Hp) (vs : List V) (us : List Value) (Q : VK), Inv X pins σ H s → Vals vs us → r σ vs H Q → wpAny (model X.prog X.w) X.A (call (.ref f) us) (EP X pins σ Q) X.xe s
theorem calls_def {f : Addr} {sp : Sp} {Ew : L2.St → XK} (F : FnR X.prog X.w X.K X.mg X.base CX n f sp) (hr : Room n X.A) (hx : ∀ σ, PassesAt CX X σ (Ew σ)) : CallS X f (fun σ vs H Q => sp vs H Q (Ew σ)) :=
  fun _ _ σ _ _ _ _ I r h => run_sub F ⟨hr, rfl⟩ (hx σ) I r h
theorem calls_class {f : Addr} {sp : Sp} {Ew : L2.St → XK} (M : Mk X.K C f) (F : FnR X.prog X.w X.K X.mg X.base CX n f sp) (hr : Room (n + 1) X.A) (hx : ∀ σ, PassesAt CX X σ (Ew σ)) :
    CallS X C (fun σ vs H Q => ∀ x dx, H x = none → H dx = none → dx ≠ x → sp (.ref x :: vs) (upd (upd H dx (.own x)) x (.ins C dx [])) (fun v H2 => v = .non ∧ Q (.ref x) H2) (Ew σ)) := by
  intro pins s σ H vs us Q I r h
  have hq := h (s.heap.objs.size + 1) s.heap.objs.size (I.hok.fresh (Nat.le_succ _)) (I.hok.fresh (Nat.le_refl _)) (Nat.ne_of_lt (Nat.lt_succ_self _))
  have I2 := Inv.made (C := C) I
  have r2 : Vals (V.ref (s.heap.objs.size + 1) :: vs) (Value.ref (s.heap.objs.size + 1) :: us) := .cons rfl r
  refine wpAny_call (make_map (f := f) I.kIn M.makes M.init (beq_iff_eq.mp M.fn) (codeAny_mono (F _ X.stack _ _ (Value.ref (s.heap.objs.size + 1) :: us) _ _ (Ew σ) (hr.make C us []) (I2.env0.make C us []) r2 hq) fun r s' hq' => ?_))
  cases r with
  | error e =>
    exact hx σ pins _ _ e s' I2 hq'
  | ok fl =>
    cases fl with
    | ret u =>
      obtain ⟨v, H', I3, rv, ev, q3⟩ := I2.after hq'
      subst ev
      exact ⟨rv, ⟨V.ref (s.heap.objs.size + 1), H', I3, rfl, q3⟩⟩
    | next => exact False.elim hq'
    | brk => exact False.elim hq'
    | cont => exact False.elim hq'
section
variable {x m : Str} {e o : Expr} {es : List Expr} {r : RS} {t : TA} {te to : TE} {p pos apos sp_ : Pos}
theorem pe_cs (c : CallS X f r) (hm : X.mg x = some (.ref f)) (hk : PySem.W.keepIn X.K (.ref f) = true) (ha : PA X (e :: es) t) (hg : Gl X x := by rfl) (hdb : (x == ("__debug__" : Str)) = false := by decide)
    (he : starEach (e :: es) X.env = (false, eval e X.env) :: starEach es X.env := by rfl) (hpl : (backTo pos (starEach es X.env)).any (·.1) = false := by rfl) : PE X (.Call (.Name x p) (e :: es) [] pos) (fun σ H Q => t σ H fun vs H1 => r σ vs H1 Q) := by
  refine ⟨fun pins s σ H Q I h => ?_⟩
  refine wpAny_Call_Name_kw (ld_glob I hg hm ?_ hdb)
  refine PySem.W.callWith_K (h₀ := X.base) I.ok.mod.kin hk (thn (ha.run pos pins s σ H _ I h) fun us s1 ⟨vs, H1, I1, rv, q⟩ => ⟨I1.kIn, ?_⟩) he hpl
  exact c pins s1 σ H1 vs us Q I1 rv q
theorem pe_cs0 (c : CallS X f r) (hm : X.mg x = some (.ref f)) (hk : PySem.W.keepIn X.K (.ref f) = true) (hg : Gl X x := by rfl) (hdb : (x == ("__debug__" : Str)) = false := by decide) : PE X (.Call (.Name x p) [] [] pos) (fun σ H Q => r σ [] H Q) := by
  refine ⟨fun pins s σ H Q I h => ?_⟩
  refine wpAny_Call_Name_kw (ld_glob I hg hm ?_ hdb)
  exact PySem.W.callWith_K0 I.kIn hk (c pins s σ H [] [] Q I .nil h)
/-- f(*e) -/
theorem pe_csS (c : CallS X f r) (hm : X.mg x = some (.ref f)) (hk : PySem.W.keepIn X.K (.ref f) = true) (he : PE X e te) (hg : Gl X x := by rfl) (hdb : (x == ("__debug__" : Str)) = false := by decide)
    (hst : starEach [.Starred e sp_] X.env = [(true, eval e X.env)] := by rfl) : PE X (.Call (.Name x p) [.Starred e sp_] [] pos) (fun σ H Q => te σ H fun y H1 => ∃ a xs, y = V.ref a ∧ (SqT X.K H1 a xs ∨ SqL X.K H1 a xs) ∧ r σ xs H1 Q) := by
  refine ⟨fun pins s σ H Q I h => ?_⟩
  refine wpAny_Call_Name_kw (ld_glob I hg hm ?_ hdb)
  refine PySem.W.callWith_S (h₀ := X.base) I.ok.mod.kin hk (thn (he.run pins s σ H _ I h) fun v s1 ⟨y, H1, I1, ry, a, xs, ey, hxs, q⟩ => ?_) hst
  subst ey
  obtain rfl : v = Value.ref a := ry
  exact StX.star_any I1 hxs fun us s2 I2 rv => ⟨I2.kIn, c pins s2 σ H1 xs us Q I2 rv q⟩
/-- f(e, .., *y) -/
theorem pe_csT (c : CallS X f r) (hm : X.mg x = some (.ref f)) (hk : PySem.W.keepIn X.K (.ref f) = true) (ha : PA X (e :: es) t) (hg : Gl X x := by rfl) (hdb : (x == ("__debug__" : Str)) = false := by decide)
    (he : starEach (e :: es) X.env = (false, eval e X.env) :: starEach es X.env := by rfl) (hst : (backTo pos (starEach es X.env)).any (·.1) = true := by rfl) : PE X (.Call (.Name x p) (e :: es) [] pos) (fun σ H Q => t σ H fun vs H1 => r σ vs H1 Q) := by
  refine ⟨fun pins s σ H Q I h => ?_⟩
  refine wpAny_Call_Name_kw (ld_glob I hg hm ?_ hdb)
  refine PySem.W.callWith_S2 (h₀ := X.base) I.ok.mod.kin hk (thn (ha.run pos pins s σ H _ I h) fun us s1 ⟨vs, H1, I1, rv, q⟩ => ⟨I1.kIn, ?_⟩) he hst
  exact c pins s1 σ H1 vs us Q I1 rv q
/-- o.m(e, ..), m a def of the class at C -/
theorem pe_ms {pl : Sem Bool} (he : PE X o to) (c : Cls X.K C) (hm : Meth X.K C m f) (cs : CallS X f r) (ha : PA X (e :: es) t)
    (hst : starEach (e :: es) X.env = (false, eval e X.env) :: starEach es X.env := by rfl) (hpl : (backTo pos (starEach es X.env)).any (·.1) = false := by rfl)
    (ht : eval (.Call (.Attribute o m apos) (e :: es) [] pos) X.env = (do
      let ov ← eval o X.env
      standAt apos.atName
      let (f, first) ← holding [ov] (getMethod ov m pl)
      callWith pos f first (backTo pos (starEach (e :: es) X.env)) (backToKw pos (keywordEach [] X.env))) := by rfl) :
    PE X (.Call (.Attribute o m apos) (e :: es) [] pos) (fun σ H Q => to σ H fun x H1 => ∃ a dx fs, x = .ref a ∧ H1 a = some (.ins C dx fs) ∧ fs.lookup m = none ∧ t σ H1 fun vs H2 => r σ (x :: vs) H2 Q) := by
  refine ⟨fun pins s σ H Q I h => ?_⟩
  refine PySem.W.methodCall_KW (pl := pl) (thn (he.run pins s σ H _ I h) fun u s1 ⟨x, H1, I1, rx, a, dx, fs, ex, ea, l, q⟩ => ?_) ht
  subst ex
  obtain rfl : u = Value.ref a := rx
  refine getmeth_ok I1 ea c hm l ?_
  refine PySem.W.callWith_K (first := [.ref a]) (h₀ := X.base) I.ok.mod.kin hm.kp (thn (ha.run pos pins s1 σ H1 _ I1 q) fun us s2 ⟨vs, H2, I2, rv, q2⟩ => ⟨I2.kIn, ?_⟩) hst hpl
  exact cs pins s2 σ H2 (.ref a :: vs) (.ref a :: us) Q I2 (.cons rfl rv) q2
theorem pe_ms0 {pl : Sem Bool} (he : PE X o to) (c : Cls X.K C) (hm : Meth X.K C m f) (cs : CallS X f r)
    (ht : eval (.Call (.Attribute o m apos) [] [] pos) X.env = (do
      let ov ← eval o X.env
      standAt apos.atName
      let (f, first) ← holding [ov] (getMethod ov m pl)
      callWith pos f first (backTo pos (starEach [] X.env)) (backToKw pos (keywordEach [] X.env))) := by rfl) :
    PE X (.Call (.Attribute o m apos) [] [] pos) (fun σ H Q => to σ H fun x H1 => ∃ a dx fs, x = .ref a ∧ H1 a = some (.ins C dx fs) ∧ fs.lookup m = none ∧ r σ [x] H1 Q) := by
  refine ⟨fun pins s σ H Q I h => ?_⟩
  refine PySem.W.methodCall_KW (pl := pl) (thn (he.run pins s σ H _ I h) fun u s1 ⟨x, H1, I1, rx, a, dx, fs, ex, ea, l, q⟩ => ?_) ht
  subst ex
  obtain rfl : u = Value.ref a := rx
  refine getmeth_ok I1 ea c hm l ?_
  exact PySem.W.callWith_K0 (first := [.ref a]) I1.kIn hm.kp (cs pins s1 σ H1 [.ref a] [.ref a] Q I1 (.cons rfl .nil) q)
end

/-- what is told of an iterator that has ended -/
def ItX (it : Addr) : HO := .ext fun h => ∃ o, h.get? it = some o
theorem itX_ok {P : Program} {w : World} {H : Hp} {h : Heap} {it : Addr} (e : ∃ o, h.get? it = some o) : ObjOk P w H h it (ItX it) := ⟨e, e, fun h1 h2 ⟨o, q⟩ k => ⟨o, k _ q⟩⟩
theorem itO_is {l it : Addr} {i : Nat} (I : Inv X pins σ H s) (e : H it = some (ItO l it i)) : s.heap.IsListIter it l i := ⟨_, itO_get I e, rfl, rfl⟩

theorem ext_loop {K' : PySem.W.Frag} {l it q : Addr} {xs : List V} {A1 : Around} {Rs : Result → Shared → Prop} (hK : K' = X.K) (hh : A1.in1.handled = none) (hz : xs.length < sizeLine) (hqi : q ≠ it) (G : Hp → Prop)
    (hG : ∀ H o u, G H → G (upd (upd H it o) q u)) (hGl : ∀ H, G H → SqL X.K H l xs)
    (hdone : ∀ H s, Inv X pins σ H s → G H → H q = some (.lst xs) → Rs (.ok (.ret .none)) s) :
    ∀ (m i : Nat), xs.length - i = m → i ≤ xs.length → ∀ (H : Hp) (s : Shared), Inv X pins σ H s → G H → H it = some (ItO l it i) → H q = some (.lst (xs.take i)) →
      codeAny (model X.prog X.w) A1 (.builtin "list.extend.loop" ⟨[.ref q, .ref it, .none], []⟩) Rs s := by
  intro m
  induction m with
  | zero =>
    intro i hm hi H s I g hit hq
    have e : i = xs.length := by omega
    subst e
    refine codeAny_builtin PySem.F.entry_extend_loop ?_
    rw [Around.under_plainId PySem.F.plain_extend_loop _]
    show wpAny _ A1.in1 (pyNext (.ref it) >>= _) _ _ s
    obtain ⟨its, rv, pl, hz'⟩ := I.list (hGl H g)
    refine wpAny_bind (pyNext_end2 hh (itO_is I hit) pl.isList (by rw [List.getElem?_toArray]; exact rv.none_of (by simp)) fun h' eb he => ?_)
    have mu : Mut (H it) := by rw [hit]; exact True.intro
    have I' : Inv X pins σ (upd H it (ItX it)) { s with heap := h' } := I.write (x := it) (e := it) (t' := s.toks) mu (.inl rfl) (fun b o nb z => eb b o nb z) he (itX_ok he)
    have g' : G (upd H it (ItX it)) := by
      have z := hG H (ItX it) (.lst (xs.take xs.length)) g
      have e2 : upd (upd H it (ItX it)) q (.lst (xs.take xs.length)) = upd H it (ItX it) := by
        funext b
        by_cases hb : b = q
        · subst hb; rw [upd_same, upd_ne hqi]; exact hq.symm
        · rw [upd_ne hb]
      rwa [e2] at z
    exact wpAny_pure (hdone _ _ I' g' (by rw [upd_ne hqi, hq, List.take_length]))
  | succ m ih =>
    intro i hm hi H s I g hit hq
    have hlt : i < xs.length := by omega
    refine codeAny_builtin PySem.F.entry_extend_loop ?_
    rw [Around.under_plainId PySem.F.plain_extend_loop _]
    show wpAny _ A1.in1 (pyNext (.ref it) >>= _) _ _ s
    obtain ⟨its, rv, pl, hz'⟩ := I.list (hGl H g)
    obtain ⟨u, hu, ru⟩ := rv.get (List.getElem?_eq_getElem hlt)
    refine wpAny_bind (pyNext_item2 (itO_get I hit) pl.isList (by rw [List.getElem?_toArray]; exact hu) fun h' e' sb => ?_)
    have mu : Mut (H it) := by rw [hit]; exact True.intro
    have I' : Inv X pins σ (upd H it (ItO l it (i + 1))) { s with heap := h' } := I.write (x := it) (e := it) (t' := s.toks) mu (.inl rfl) (fun b o nb z => (sb.2 b nb).trans z) ⟨_, e'⟩ (itO_ok e')
    have hq' : upd H it (ItO l it (i + 1)) q = some (.lst (xs.take i)) := by rw [upd_ne hqi]; exact hq
    show wpAny _ A1.in1 (updateSeq q (·.push u) >>= _) _ _ _
    obtain ⟨z, its2, k, r2, hl2, e2⟩ := I'.lstM hq'
    have hlen : (xs.take i).length < sizeLine := by rw [List.length_take]; omega
    refine wpAny_bind (wpAny_updateSeq e2 rfl (wpAny_pure ⟨plainId_quiet PySem.F.plain_extend_loop _, ?_⟩) (by rw [List.size_toArray]; omega) (by show (its2.toArray.push u).size ≤ sizeLine + 1; rw [Array.size_push, List.size_toArray]; omega))
    have tk : xs.take (i + 1) = xs.take i ++ [xs[i]] := by rw [List.take_add_one, List.getElem?_eq_getElem hlt]; rfl
    refine ih (i + 1) (by omega) hlt _ _ (I'.lset (its' := its2 ++ [u]) (ys := xs.take (i + 1)) (t' := s.toks) hq' e2 (by simp) (by rw [tk]; exact r2.append (.cons ru .nil)) (by rw [List.length_take]; omega)) (hG H _ _ g) ?_ upd_same
    rw [upd_ne (Ne.symm hqi), upd_same]

/-- list(o): spI: __iter__ gives an iterator over a list that keeps its items xs; spL: __len__ gives their number -/
def rOwnList (K : PySem.W.Frag) (C : Addr) (spI spL : Sp) : List V → Hp → VK → Prop := fun vs H Q => ∃ (a l : Addr) (xs : List V), vs = [.ref a] ∧ InsAt H C a ∧ SqL K H l xs ∧ xs.length < sizeLine ∧
  (∀ q Q', H q = none → (∀ it, upd H q (.lst []) it = none → Q' (.ref it) (upd (upd H q (.lst [])) it (ItO l it 0))) → spI vs (upd H q (.lst [])) Q' E0) ∧
  (∀ q it Q', H q = none → H it = none → it ≠ q → Q' (.int xs.length) (upd (upd H q (.lst [])) it (ItO l it 0)) → spL vs (upd (upd H q (.lst [])) it (ItO l it 0)) Q' E0) ∧
  ∀ q it o, H q = none → H it = none → it ≠ q → Q (.ref q) (upd (upd H q (.lst xs)) it o)
theorem room_sub {n : Nat} (hr : Room (n + 3) X.A) : Sub X n X.A.in1.in1.in1 := Sub.in1 (Sub.in1 (Sub.in1 (⟨hr, rfl⟩ : Sub X (n + 3) X.A)))
theorem own_hint2 {fl : Addr} {a : Addr} {k : Nat} {A1 : Around} {spL : Sp} {Q : Bool → Shared → Prop} (hm : OwnM X.K C "__len__" fl) (FL : FnR X.prog X.w X.K X.mg X.base (L2.CX X.prog X.w) n fl spL) (sb : Sub X n A1.in1)
    (I : Inv X pins σ H s) (ha : InsAt H C a) (hk : k < sizeLine) (hsp : ∀ Q', Q' (.int k) H → spL [.ref a] H Q' E0) (h : ∀ b s', Inv X pins σ H s' → Q b s') : wpAny (model X.prog X.w) A1 (Builtin.List.listLengthHint (.ref a)) Q X.xe s := by
  obtain ⟨od, J⟩ := ins_at I ha
  obtain ⟨m, hF⟩ := I.fr
  have z63 : (sizeLine : Nat) < 2 ^ 63 := line63
  unfold Builtin.List.listLengthHint
  refine wpAny_bind (wpAny_bind (J.type.here ((PySem.W.looks_findIn I.kIn hm.at_).here ?_)))
  refine wpAny_bind (wpAny_rule ?_)
  refine wpAny_bind (wpAny_attempt ?_)
  refine PySem.W.len_K hF I.ok.mod.kin J hm.at_ hm.fn ?_
  have I0 : Inv X.nox pins σ H s := I.wish _
  have sb0 : Sub X.nox n A1.in1 := ⟨sb.room, sb.fr⟩
  refine wpAny_mono (run_sub (X := X.nox) (σ := σ) (vs := [V.ref a]) FL sb0 (passAt0 σ) I0 (.cons rfl .nil) (hsp (fun v H' => v = .int k ∧ H' = H) ⟨rfl, rfl⟩)) (fun v s' q => ?_) (fun e s' q => ?_)
  · obtain ⟨x, H', I', r, ex, eH⟩ := q
    subst ex
    rw [eH] at I'
    obtain ⟨t, rfl⟩ := r
    refine ⟨⟨by omega, by omega⟩, ?_⟩
    have tl : Builtin.List.listTooLong ((k : Int).toNat) = false := by
      show decide ((k : Int).toNat > sizeLine) = false
      rw [Int.toNat_natCast]
      exact decide_eq_false (by omega)
    dsimp only
    refine wpAny_bind (wpAny_pure ?_)
    dsimp only
    rw [tl]
    exact wpAny_pure (h _ _ (I'.unwish.tok _))
  · exact q.elim
theorem itO_next {it l : Addr} {i : Nat} {M : Model} {A1 : Around} {Q : Value → Shared → Prop} {E1 : Value → Shared → Prop} (hit : s.heap.IsListIter it l i) (h : Q (.ref it) s) : PySem.W.OwitIt M A1 Q E1 (.ref it) s := by
  unfold PySem.W.OwitIt
  refine wpAny_specialOf (name := Str.ofString "__next__") hit.typeIs slot_listiter_next.lookup ?_
  exact h
theorem call_ownList {fi fl : Addr} {spI spL : Sp} (mi : OwnM X.K C "__iter__" fi) (ml : OwnM X.K C "__len__" fl) (FI : FnR X.prog X.w X.K X.mg X.base (L2.CX X.prog X.w) n fi spI)
    (FL : FnR X.prog X.w X.K X.mg X.base (L2.CX X.prog X.w) n fl spL) (hc : X.calm = true) (hr : Room (n + 3) X.A) : CallR X (.type "list") (rOwnList X.K C spI spL) := by
  intro pins s σ H vs us Q I rv h
  obtain ⟨a, l, xs, rfl, ha, hl, hz, hI, hL, hQ⟩ := h
  obtain ⟨u, rfl, ru⟩ := rv.one
  cases ru
  have sb3 : Sub X n X.A.in1.in1.in1 := room_sub hr
  have sb2 : Sub X n X.A.in1.in1 := Sub.mono (Sub.in1 (Sub.in1 (⟨hr, rfl⟩ : Sub X (n + 3) X.A))) (Nat.le_succ _)
  refine callType_codes (Q₁ := fun obj s₁ => obj = .ref s.heap.objs.size ∧ s₁ = { s with heap := s.heap.push { cls := .type "list", data := .seq #[] } }) PySem.F.called_list (PySem.F.typeCall_list_1 _) PySem.F.entry_list_init
    (code_list_new _ ⟨rfl, rfl⟩) fun obj s₁ h₁ => ?_
  obtain ⟨rfl, rfl⟩ := h₁
  have hS : (s.heap.push { cls := .type "list", data := .seq #[] }).get? s.heap.objs.size = some { cls := .type "list", data := .seq #[] } := Heap.get?_push_size _ rfl
  refine ⟨⟨_, hS, rfl⟩, PySem.F.args_list_init_2 _ _, ?_⟩
  have fr : H s.heap.objs.size = none := I.hok.fresh (Nat.le_refl _)
  generalize hq : s.heap.objs.size = q at *
  have I1 : Inv X pins σ (upd H q (.lst [])) { s with heap := s.heap.push { cls := .type "list", data := .seq #[] } } := by rw [← hq]; exact I.lnew (its := []) (t' := s.toks) .nil (Nat.zero_le _)
  show wpAny _ _ (do let old ← Builtin.List.listItems (.ref q); Builtin.List.listUpdate (.ref q) (fun _ => #[]); letGo old.toList.reverse; Builtin.List.listExtendWith (.ref q) (.ref a) .none) _ _ _
  refine wpAny_bind ?_
  unfold Builtin.List.listItems
  refine wpAny_bind (wpAny_seqItems hS rfl (wpAny_pure ?_))
  show wpAny _ _ (updateSeq q (fun _ => #[]) >>= fun _ => letGo (#[] : Array Value).toList.reverse >>= fun _ => Builtin.List.listExtendWith (.ref q) (.ref a) .none) _ _ _
  refine wpAny_bind (wpAny_updateSeq hS rfl ?_)
  have I2 := I1.lset (f := fun _ => #[]) (its := []) (its' := []) (ys := []) (t' := s.toks) upd_same hS rfl .nil (Nat.zero_le _)
  rw [upd_upd] at I2
  refine wpAny_bind (wpAny_letGo ?_)
  have insQ : ∀ {H' : Hp}, (∀ b o, H b = some o → H' b = some o) → InsAt H' C a := fun k => let ⟨dx, fs, e⟩ := ha; ⟨dx, fs, k _ _ e⟩
  have kq : ∀ (o : HO) b u, H b = some u → upd H q o b = some u := fun o b u e => by rw [upd_ne (ne_of_none e fr)]; exact e
  have haq := insQ (kq (.lst []))
  -- the very extending
  obtain ⟨od, J⟩ := ins_at I2 haq
  obtain ⟨m0, hF⟩ := I2.fr
  have hne : q ≠ a := by
    obtain ⟨dx, fs, e⟩ := ha
    exact fun z => by rw [← z, fr] at e; cases e
  unfold Builtin.List.listExtendWith
  refine wpAny_bind (J.type.here ?_)
  have h1 : Builtin.List.listSameRef (.ref q) (.ref a) = false := by simp [Builtin.List.listSameRef, hne]
  have h2 : (Value.ref C == Value.type "list") = false := rfl
  have h3 : (Value.ref C == Value.type "tuple") = false := rfl
  simp only [h1, h2, h3, Bool.or_false, Bool.false_eq_true, if_false]
  refine wpAny_bind (PySem.W.owit_iter hF I2.ok.mod.kin J mi.at_ mi.fn ?_)
  refine thn (run_sub (σ := σ) (vs := [V.ref a]) FI sb2 (passAt0 σ) I2 (.cons rfl .nil) (hI q (fun v H' => ∃ it, v = .ref it ∧ upd H q (.lst []) it = none ∧ H' = upd (upd H q (.lst [])) it (ItO l it 0)) fr fun it hit => ⟨it, rfl, hit, rfl⟩)) fun v s3 q3 => ?_
  obtain ⟨x, H3, I3, r3, it, ex, hit, eH⟩ := q3
  subst ex
  subst eH
  cases r3
  have nit : it ≠ q := fun z => by rw [z, upd_same] at hit; cases hit
  have hit0 : H it = none := by rw [upd_ne nit] at hit; exact hit
  have kit : ∀ (o : HO) b u, H b = some u → upd (upd H q (.lst [])) it o b = some u := fun o b u e => by rw [upd_ne (ne_of_none e hit0)]; exact kq _ b u e
  refine itO_next (itO_is I3 upd_same) ?_
  refine wpAny_bind (wpAny_holding ?_)
  refine own_hint2 ml FL sb3 I3 (insQ (kit _)) hz (fun Q' hq' => hL q it Q' fr hit0 nit hq') fun b s4 I4 => ?_
  have hqH : upd (upd H q (.lst [])) it (ItO l it 0) q = some (.lst []) := by rw [upd_ne (Ne.symm nit), upd_same]
  have lp : ∀ s5, Inv X pins σ (upd (upd H q (.lst [])) it (ItO l it 0)) s5 → codeAny (model X.prog X.w) X.A.in1 (.builtin "list.extend.loop" ⟨[.ref q, .ref it, .none], []⟩) (wants (fun r s₂ => r = .none ∧ EP X pins σ Q (.ref q) s₂) X.xe) s5 := fun s5 I5 => by
    refine ext_loop (K' := X.K) (xs := xs) (q := q) rfl (show X.A.in1.in1.handled = none from I.ok.hd hc) hz (Ne.symm nit) (fun H' => ∃ u o, H' = upd (upd H q u) it o) (fun H' o u ⟨u', o', e⟩ => ⟨u, o, ?_⟩) (fun H' ⟨u, o, e⟩ => ?_) (fun H' s6 I6 ⟨u, o, e⟩ hq6 => ?_) _ 0 rfl (Nat.zero_le _) _ s5 I5 ⟨_, _, rfl⟩ upd_same (by rw [List.take_zero]; exact hqH)
    · subst e
      funext b
      by_cases hb : b = q
      · subst hb; rw [upd_same, upd_ne (Ne.symm nit), upd_same]
      · by_cases hb' : b = it
        · subst hb'; rw [upd_ne hb, upd_same, upd_same]
        · rw [upd_ne hb, upd_ne hb', upd_ne hb', upd_ne hb, upd_ne hb', upd_ne hb]
    · subst e
      have nl : l ≠ q ∧ l ≠ it ∨ ∃ w', SqL X.K (fun _ => none) l w' ∧ w' = xs := by
        rcases hl with (h | ⟨ob, h⟩) | h
        · exact .inl ⟨ne_of_none h fr, ne_of_none h hit0⟩
        · exact .inl ⟨ne_of_none h fr, ne_of_none h hit0⟩
        · exact .inr ⟨xs, .inr h, rfl⟩
      rcases nl with ⟨n1, n2⟩ | ⟨w', h, rfl⟩
      · rcases hl with (h | ⟨ob, h⟩) | h
        · exact .inl (.inl (by rw [upd_ne n2, upd_ne n1]; exact h))
        · exact .inl (.inr ⟨ob, by rw [upd_ne n2, upd_ne n1]; exact h⟩)
        · exact .inr h
      · rcases h with (h | ⟨ob, h⟩) | h
        · cases h
        · cases h
        · exact .inr h
    · subst e
      rw [upd_ne (Ne.symm nit), upd_same] at hq6
      cases hq6
      exact ⟨rfl, .ref q, _, I6, rfl, hQ q it o fr hit0 nit⟩
  obtain ⟨z, its, k, r3, hl3, e3⟩ := I4.lstM hqH
  cases r3
  refine wpAny_ite_split (fun _ => ?_) (fun _ => wpAny_pure ⟨plainId_quiet PySem.F.plain_extend_loop _, lp s4 I4⟩)
  refine wpAny_bind (wpAny_rule ?_)
  refine wpAny_bind ?_
  show wpAny _ _ (updateSeq q (·.push .none) >>= fun _ => updateSeq q (·.pop)) _ _ _
  refine wpAny_bind (wpAny_updateSeq e3 rfl ?_)
  have I5 := I4.lset (f := (·.push Value.none)) (its' := [Value.none]) (ys := [.non]) (t' := s4.toks) hqH e3 (by simp) (.cons rfl .nil) (by rw [List.length_singleton, sizeLine_eq]; decide)
  obtain ⟨z4, its4, k4, r4, hl4, e4⟩ := I5.lstM upd_same
  obtain ⟨u4, rfl, ru4⟩ := r4.one
  refine wpAny_updateSeq e4 rfl ?_ (by show 1 ≤ sizeLine; rw [sizeLine_eq]; decide) (by show 0 ≤ sizeLine + 1; exact Nat.zero_le _)
  have I6 := I5.lset (f := (·.pop)) (its := [u4]) (its' := []) (ys := []) (t' := s4.toks) upd_same e4 (by rfl) .nil (Nat.zero_le _)
  rw [upd_upd] at I6
  have hH : upd (upd (upd H q (.lst [])) it (ItO l it 0)) q (.lst []) = upd (upd H q (.lst [])) it (ItO l it 0) := by
    funext b
    by_cases hb : b = q
    · rw [hb, upd_same, hqH]
    · rw [upd_ne hb]
  rw [hH] at I6
  exact wpAny_pure ⟨plainId_quiet PySem.F.plain_extend_loop _, lp _ I6⟩
end
end DL

/-! # DL3: the rules at the level of data -/
namespace DL
open PySem L2

/-! ### reading lists -/
def lisM : Option MO → Option (List D)
  | some (.lst xs) => some xs
  | _ => none
theorem lisM_inv {o : Option MO} {ds : List D} (h : lisM o = some ds) : o = some (.lst ds) := by
  cases o with
  | none => cases h
  | some m => cases m <;> first | (cases h; rfl) | cases h
def lisD (μ : Mu) : D → Option (List D)
  | .lst xs => some xs
  | .fro xs => some xs
  | .adr a => lisM (μ a)
  | _ => none
def tupD : D → Option (List D)
  | .tup xs => some xs
  | .ktup xs => some xs
  | .ftup xs => some xs
  | _ => none
def itemsD (μ : Mu) : D → Option (List D)
  | .tup xs => some xs
  | .ktup xs => some xs
  | .ftup xs => some xs
  | .lst xs => some xs
  | .fro xs => some xs
  | .adr a => lisM (μ a)
  | _ => none
section
variable {K : PySem.W.Frag} {S H : Hp} {μ F : Mu} {v : V} {d : D} {ds : List D}
theorem lis_at (r : R K S H μ F) (a : At K S v d) (h : lisD μ d = some ds) : ∃ p vs, v = .ref p ∧ SqL K H p vs ∧ AtL K S vs ds := by
  cases a with
  | @lst p vs es hs hl hi => cases h; exact ⟨p, vs, rfl, SqL.of (r.lst hs), hl, hi⟩
  | @fro p vs es hs hl hi => cases h; exact ⟨p, vs, rfl, r.sqL hs, hl, hi⟩
  | adr p =>
    obtain ⟨_, o, ho, hm⟩ := r.sto p _ (lisM_inv (show lisM (μ p) = some ds from h))
    cases o <;> first | exact hm.elim | exact ⟨p, _, rfl, SqL.of ho, hm⟩
  | _ => cases h
theorem tup_at (r : R K S H μ F) (a : At K S v d) (h : tupD d = some ds) : ∃ p vs, v = .ref p ∧ SqT K H p vs ∧ AtL K S vs ds := by
  cases a with
  | @tup p vs es hs hl hi => cases h; exact ⟨p, vs, rfl, SqT.of (r.tup hs), hl, hi⟩
  | @ktup p vs es hs hl hi => cases h; exact ⟨p, vs, rfl, r.sqT hs, hl, hi⟩
  | @ftup p ob vs es hs hd hl hi => cases h; exact ⟨p, vs, rfl, .inl (.inr ⟨ob, r.ftup hs⟩), hl, hi⟩
  | _ => cases h
theorem items_at (r : R K S H μ F) (a : At K S v d) (h : itemsD μ d = some ds) : ∃ p vs, v = .ref p ∧ (SqL K H p vs ∨ SqT K H p vs) ∧ AtL K S vs ds := by
  have hc : lisD μ d = some ds ∨ tupD d = some ds := by
    cases d <;> first | exact .inl h | exact .inr h
  rcases hc with hc | hc
  · obtain ⟨p, vs, e, q, l⟩ := lis_at r a hc; exact ⟨p, vs, e, .inl q, l⟩
  · obtain ⟨p, vs, e, q, l⟩ := tup_at r a hc; exact ⟨p, vs, e, .inr q, l⟩
/-- a list that is tracked and stands by itself -/
theorem own_at (r : R K S H μ F) (a : At K S v d) (h : lisD μ d = some ds) (hf : ∀ xs, d ≠ .fro xs) : ∃ p vs, v = .ref p ∧ H p = some (.lst vs) ∧ AtL K S vs ds := by
  cases a with
  | @lst p vs es hs hl hi => cases h; exact ⟨p, vs, rfl, r.lst hs, hl, hi⟩
  | @fro p vs es hs hl hi => exact (hf _ rfl).elim
  | adr p =>
    obtain ⟨_, o, ho, hm⟩ := r.sto p _ (lisM_inv (show lisM (μ p) = some ds from h))
    cases o <;> first | exact hm.elim | exact ⟨p, _, rfl, ho, hm⟩
  | _ => cases h
end
def noFro : D → Bool
  | .fro _ => false
  | _ => true
theorem noFro_ne {d : D} (h : noFro d = true) : ∀ xs, d ≠ .fro xs := fun xs e => by rw [e] at h; cases h

/-! ### flat data -/
def flatD : D → Option V
  | .non => some .non
  | .bl b => some (.bl b)
  | .int i => some (.int i)
  | .str x => some (.str x)
  | _ => none
theorem flat_at {K : PySem.W.Frag} {S : Hp} {v w : V} {d : D} (a : At K S v d) (h : flatD d = some w) : v = w ∧ flatV v = true := by
  cases a <;> first | (cases h; exact ⟨rfl, rfl⟩) | cases h
theorem flat_all {K : PySem.W.Frag} {S : Hp} : ∀ {vs : List V} {ds : List D}, AtL K S vs ds → ds.all (fun d => (flatD d).isSome) = true → vs = ds.filterMap flatD ∧ vs.all flatV = true
  | [], [], _, _ => ⟨rfl, rfl⟩
  | v :: vs, d :: ds, a, h => by
    rw [List.all_cons, Bool.and_eq_true] at h
    obtain ⟨h1, h2⟩ := h
    obtain ⟨w, hw⟩ := Option.isSome_iff_exists.mp h1
    obtain ⟨e, f⟩ := flat_at a.head hw
    obtain ⟨e', f'⟩ := flat_all a.tail h2
    refine ⟨?_, by rw [List.all_cons, f, f']; rfl⟩
    rw [List.filterMap_cons, hw, ← e', e]
  | [], _ :: _, a, _ => by have := a.1; simp at this
  | _ :: _, [], a, _ => by have := a.1; simp at this
def inD (x : D) (ds : List D) : Bool := match flatD x with
  | some w => inV w (ds.filterMap flatD)
  | none => false

/-! ### names, constants -/
section
variable {X : Cx} {W : WX}
def dVar (i : Nat) : TD := fun γ μ _ Φ => ∃ d, γ[i]? = some (some d) ∧ Φ d μ
theorem e_var (i : Nat) {x : Str} {pos : Pos} (hN : X.N[i]? = some x := by rfl) (hv : Vis X.env.scope x := by first | exact Or.inl rfl | exact Or.inr (Or.inl rfl) | exact Or.inr (Or.inr rfl)) (hd : (x == ("__debug__" : Str)) = false := by decide)
    (hcd : (x == ("__classdict__" : Str)) = false := by decide) : PE X (.Name x pos) (tD X.K W (dVar i)) :=
  pe_imp (pv i hN hv hd hcd) fun σ H Q ⟨S, γ, μ, F, Ξ, Φ, hE, hR, hX, ⟨d, h1, h2⟩, hq⟩ => let ⟨v, h3, h4⟩ := hE.2 i d h1; ⟨v, h3, hq S H v d μ (Le.refl S) hR h4 h2⟩
def dC (d : D) : TD := fun _ μ _ Φ => Φ d μ
theorem d_const {v : V} {d : D} {e : Expr} (h : PE X e (tC v)) (a : ∀ S, At X.K S v d) : PE X e (tD X.K W (dC d)) :=
  pe_imp h fun σ H Q ⟨S, γ, μ, F, Ξ, Φ, hE, hR, hX, hw, hq⟩ => hq S H v d μ (Le.refl S) hR (a S) hw
theorem e_int {i j pos} : PE X (.Constant (.int i) j pos) (tD X.K W (dC (.int i))) := d_const pe_int fun _ => .int _
theorem e_bl {i j pos} : PE X (.Constant (.bool i) j pos) (tD X.K W (dC (.bl i))) := d_const pe_bl fun _ => .bl _
theorem e_non {j pos} : PE X (.Constant .none j pos) (tD X.K W (dC .non)) := d_const pe_non fun _ => .non
theorem e_str {i j pos} : PE X (.Constant (.str i) j pos) (tD X.K W (dC (.str i))) := d_const pe_str fun _ => .str _
/-- a module's constant that is a text -/
theorem e_gstr {x y : Str} {t : Tok} {pos : Pos} (hm : X.mg x = some (.str y t)) (hg : Gl X x := by rfl) (hd : (x == ("__debug__" : Str)) = false := by decide) : PE X (.Name x pos) (tD X.K W (dC (.str y))) := d_const (v := .str y) (pe_glob (v := .str y) hg hm ⟨t, rfl⟩ hd) fun _ => .str _
theorem e_gint {x : Str} {y : Int} {t : Tok} {pos : Pos} (hm : X.mg x = some (.int y t)) (hg : Gl X x := by rfl) (hd : (x == ("__debug__" : Str)) = false := by decide) : PE X (.Name x pos) (tD X.K W (dC (.int y))) := d_const (v := .int y) (pe_glob (v := .int y) hg hm ⟨t, rfl⟩ hd) fun _ => .int _
/-- a class, a def of the module as a value -/
theorem e_gref {x : Str} {a : Addr} {pos : Pos} (hm : X.mg x = some (.ref a)) (hg : Gl X x := by rfl) (hd : (x == ("__debug__" : Str)) = false := by decide) : PE X (.Name x pos) (tD X.K W (dC (.adr a))) := d_const (pe_glob hg hm (v := .ref a) rfl hd) fun _ => .adr _
/-- a tuple of texts that the module's top has made -/
structure KTup (K : PySem.W.Frag) (a : Addr) (xs : List Str) : Prop where
  ex : ∃ (o : Obj) (its : Array Value) (n : Nat), K.lookup a = some o ∧ o.cls = .type "tuple" ∧ o.data = .seq its n ∧ its.size ≤ sizeLine ∧ Vals (xs.map V.str) its.toList
theorem e_gtup {x : Str} {a : Addr} {xs : List Str} {pos : Pos} (hm : X.mg x = some (.ref a)) (hk : KTup X.K a xs) (hg : Gl X x := by rfl) (hd : (x == ("__debug__" : Str)) = false := by decide) : PE X (.Name x pos) (tD X.K W (dC (.ktup (xs.map D.str)))) :=
  d_const (pe_glob hg hm (v := .ref a) rfl hd) fun S => .ktup (.inr hk.ex) (by simp) (atL_strs xs).2

/-! ### operators on two values -/
abbrev OD := D → D → Mu → KD → Prop
def OpD (K : PySem.W.Frag) (r : R2) (w : OD) : Prop := ∀ (S H : Hp) (μ F : Mu) (x y : V) (d e : D) (Φ : KD) (Q : VK), R K S H μ F → At K S x d → At K S y e → w d e μ Φ →
  (∀ S' H' v d' μ', Le S S' → R K S' H' μ' F → At K S' v d' → Φ d' μ' → Q v H') → r x y H Q
def dOp (w : OD) (wa wb : TD) : TD := fun γ μ Ξ Φ => wa γ μ Ξ fun x μ1 => wb γ μ1 Ξ fun y μ2 => w x y μ2 Φ
theorem op_go {r : R2} {w : OD} {wa wb : TD} (hw : OpD X.K r w) {σ : L2.St} {H : Hp} {Q : VK} (h : tD X.K W (dOp w wa wb) σ H Q) : tOp r (tD X.K W wa) (tD X.K W wb) σ H Q := by
  obtain ⟨S, γ, μ, F, Ξ, Φ, hE, hR, hX, hw', hq⟩ := h
  exact ⟨S, γ, μ, F, Ξ, _, hE, hR, hX, hw', fun S1 H1 x d μ1 l1 r1 a1 q1 => ⟨S1, γ, μ1, F, Ξ, _, hE.mono l1, r1, hX.mono l1, q1, fun S2 H2 y e μ2 l2 r2 a2 q2 =>
    hw S2 H2 μ2 F x y d e _ _ r2 (a1.mono l2) a2 q2 fun S3 H3 v d' μ3 l3 r3 a3 q3 => hq S3 H3 v d' μ3 (l1.trans (l2.trans l3)) r3 a3 q3⟩⟩
theorem e_bin {op : Operator} {r : R2} {w : OD} {a b : Expr} {wa wb : TD} {pos : Pos} (ho : OpR X (binaryOp op) r) (hw : OpD X.K r w) (ha : PE X a (tD X.K W wa)) (hb : PE X b (tD X.K W wb)) : PE X (.BinOp a op b pos) (tD X.K W (dOp w wa wb)) :=
  pe_imp (pe_op ho ha hb) fun _ _ _ h => op_go hw h
theorem e_cmp {op : CmpOp} {r : R2} {w : OD} {a b : Expr} {wa wb : TD} {pos : Pos} (ho : OpR X (compareOp op) r) (hw : OpD X.K r w) (ha : PE X a (tD X.K W wa)) (hb : PE X b (tD X.K W wb)) (hm : behindInMarks op b = false := by first | exact nomark _ | rfl) : PE X (.Compare a [op] [b] pos) (tD X.K W (dOp w wa wb)) :=
  pe_imp (pe_cmpR ho ha hb hm) fun _ _ _ h => op_go hw h
def dTest (w : TD) : TDT := fun γ μ Ξ Φ => w γ μ Ξ fun d μ' => ∃ b, d = .bl b ∧ Φ b μ'
theorem At.bl_inv {K : PySem.W.Frag} {S : Hp} {v : V} {b : Bool} (a : At K S v (.bl b)) : v = .bl b := by cases a; rfl
theorem At.int_inv {K : PySem.W.Frag} {S : Hp} {v : V} {b : Int} (a : At K S v (.int b)) : v = .int b := by cases a; rfl
theorem At.str_inv {K : PySem.W.Frag} {S : Hp} {v : V} {b : Str} (a : At K S v (.str b)) : v = .str b := by cases a; rfl
theorem At.adr_inv {K : PySem.W.Frag} {S : Hp} {v : V} {b : Addr} (a : At K S v (.adr b)) : v = .ref b := by cases a; rfl
theorem At.non_inv {K : PySem.W.Frag} {S : Hp} {v : V} (a : At K S v .non) : v = .non := by cases a; rfl
theorem At.ty_inv {K : PySem.W.Frag} {S : Hp} {v : V} {n : String} (a : At K S v (.ty n)) : v = .ty n := by cases a; rfl
theorem t_cmp {op : CmpOp} {r : R2} {w : OD} {a b : Expr} {wa wb : TD} {pos : Pos} (ho : OpR X (compareOp op) r) (hw : OpD X.K r w) (ha : PE X a (tD X.K W wa)) (hb : PE X b (tD X.K W wb)) (hm : behindInMarks op b = false := by first | exact nomark _ | rfl) : PT X (.Compare a [op] [b] pos) (tDT X.K W (dTest (dOp w wa wb))) :=
  pt_imp (pt_cmpR ho ha hb hm) fun σ H Q ⟨S, γ, μ, F, Ξ, Φ, hE, hR, hX, hw', hq⟩ => op_go hw ⟨S, γ, μ, F, Ξ, _, hE, hR, hX, hw', fun S1 H1 v d μ1 l1 r1 a1 ⟨b, e, q1⟩ => ⟨b, by subst e; exact a1.bl_inv, hq S1 H1 b μ1 l1 r1 q1⟩⟩
/-- int and int -/
def oI (C : Int → Int → Prop) (g : Int → Int → D) : OD := fun x y μ Φ => ∃ i j, x = .int i ∧ y = .int j ∧ C i j ∧ Φ (g i j) μ
theorem op_I {K : PySem.W.Frag} {C : Int → Int → Prop} {g : Int → Int → V} {g' : Int → Int → D} (hg : ∀ S i j, At K S (g i j) (g' i j)) : OpD K (rI C g) (oI C g') := by
  intro S H μ F x y d e Φ Q r ax ay ⟨i, j, e1, e2, c, q⟩ k
  subst e1; subst e2
  exact ⟨i, j, ax.int_inv, ay.int_inv, c, k S H _ _ μ (Le.refl S) r (hg S i j) q⟩
def oI0 (g : Int → Int → D) : OD := fun x y μ Φ => ∃ i j, x = .int i ∧ y = .int j ∧ Φ (g i j) μ
theorem op_I0 {K : PySem.W.Frag} {g : Int → Int → V} {g' : Int → Int → D} (hg : ∀ S i j, At K S (g i j) (g' i j)) : OpD K (rI0 g) (oI0 g') := by
  intro S H μ F x y d e Φ Q r ax ay ⟨i, j, e1, e2, q⟩ k
  subst e1; subst e2
  exact ⟨i, j, ax.int_inv, ay.int_inv, k S H _ _ μ (Le.refl S) r (hg S i j) q⟩
/-- + : ints, texts, lists (a new one), tuples (a new one) -/
def oAdd : OD := fun x y μ Φ => match x, y with
  | .int i, .int j => Φ (.int (i + j)) μ
  | .str a, .str b => a.length + b.length ≤ sizeLine ∧ Φ (.str (a ++ b)) μ
  | .tup xs, .tup ys => xs.length + ys.length ≤ sizeLine ∧ Φ (.tup (xs ++ ys)) μ
  | .ktup xs, .tup ys => xs ≠ [] ∧ ys ≠ [] ∧ xs.length + ys.length ≤ sizeLine ∧ Φ (.tup (xs ++ ys)) μ
  | x, y => ∃ xs ys, lisD μ x = some xs ∧ lisD μ y = some ys ∧ noFro x = true ∧ noFro y = true ∧ xs.length + ys.length ≤ sizeLine ∧ Φ (.lst (xs ++ ys)) μ
def rAddA (K : PySem.W.Frag) : R2 := fun x y H Q => rI0 (fun i j => .int (i + j)) x y H Q ∨ (∃ i j, x = .str i ∧ y = .str j ∧ i.length + j.length ≤ sizeLine ∧ Q (.str (i ++ j)) H) ∨ rCatA K x y H Q ∨ rCat x y H Q
theorem op_addA : OpR X (binaryOp .Add) (rAddA X.K) := op_add.or (op_add_str.or (op_catA.or op_cat))
theorem atL_lst {K : PySem.W.Frag} {S : Hp} {p : Addr} {vs : List V} {ds : List D} (h : S p = some (.lst vs)) (a : AtL K S vs ds) : At K S (.ref p) (.lst ds) := .lst h a.1 a.2
theorem atL_tup {K : PySem.W.Frag} {S : Hp} {p : Addr} {vs : List V} {ds : List D} (h : S p = some (.tup vs)) (a : AtL K S vs ds) : At K S (.ref p) (.tup ds) := .tup h a.1 a.2
section
variable {K : PySem.W.Frag} {S H : Hp} {μ F : Mu} {vs : List V} {ds : List D} {Φ : KD} {Q : VK}
theorem new_lst (r : R K S H μ F) (a : AtL K S vs ds) (q : Φ (.lst ds) μ) (k : ∀ S' H' v d' μ', Le S S' → R K S' H' μ' F → At K S' v d' → Φ d' μ' → Q v H') : ∀ p, H p = none → Q (.ref p) (upd H p (.lst vs)) := fun p hp =>
  k (upd S p (.lst vs)) _ _ _ μ (Le.new (r.free hp)) (r.new hp) (atL_lst upd_same (a.mono (Le.new (r.free hp)))) q
theorem new_tup (r : R K S H μ F) (a : AtL K S vs ds) (q : Φ (.tup ds) μ) (k : ∀ S' H' v d' μ', Le S S' → R K S' H' μ' F → At K S' v d' → Φ d' μ' → Q v H') : ∀ p, H p = none → Q (.ref p) (upd H p (.tup vs)) := fun p hp =>
  k (upd S p (.tup vs)) _ _ _ μ (Le.new (r.free hp)) (r.new hp) (atL_tup upd_same (a.mono (Le.new (r.free hp)))) q
theorem new_lstM (r : R K S H μ F) (a : AtL K S vs ds) (q : ∀ p, μ p = none → Φ (.adr p) (updM μ p (.lst ds))) (k : ∀ S' H' v d' μ', Le S S' → R K S' H' μ' F → At K S' v d' → Φ d' μ' → Q v H') : ∀ p, H p = none → Q (.ref p) (upd H p (.lst vs)) := fun p hp =>
  k S _ _ _ _ (Le.refl S) (r.newM (m := .lst ds) hp a) (.adr p) (q p (r.freeM hp))
end
theorem ne_nil {K : PySem.W.Frag} {S : Hp} {vs : List V} {ds : List D} (a : AtL K S vs ds) (h : ds ≠ []) : vs ≠ [] := fun e => h (by have := a.1; rw [e] at this; exact List.length_eq_zero_iff.mp this.symm)
theorem od_add {K : PySem.W.Frag} : OpD K (rAddA K) oAdd := by
  intro S H μ F x y d e Φ Q r ax ay hw k
  have fin : (∃ xs ys, lisD μ d = some xs ∧ lisD μ e = some ys ∧ noFro d = true ∧ noFro e = true ∧ xs.length + ys.length ≤ sizeLine ∧ Φ (.lst (xs ++ ys)) μ) → rAddA K x y H Q := by
    rintro ⟨xs, ys, h1, h2, f1, f2, hz, q⟩
    obtain ⟨p, vs, rfl, e1, l1⟩ := own_at r ax h1 (noFro_ne f1)
    obtain ⟨p2, ws, rfl, e2, l2⟩ := own_at r ay h2 (noFro_ne f2)
    exact .inr (.inr (.inr ⟨p, p2, vs, ws, rfl, rfl, e1, e2, by rw [l1.1, l2.1]; exact hz, new_lst r (l1.append l2) q k⟩))
  have tt : ∀ {xs ys : List D}, tupD d = some xs → tupD e = some ys → (xs = [] → Φ e μ) → (xs ≠ [] → ys = [] → Φ d μ) → xs.length + ys.length ≤ sizeLine → Φ (.tup (xs ++ ys)) μ → rAddA K x y H Q := fun {xs ys} h1 h2 n1 n2 hz q => by
    obtain ⟨p, vs, rfl, e1, l1⟩ := tup_at r ax h1
    obtain ⟨p2, ws, rfl, e2, l2⟩ := tup_at r ay h2
    have nil : ∀ {us : List V} {fs : List D}, AtL K S us fs → us = [] → fs = [] := fun a z => by have := a.1; rw [z] at this; exact List.length_eq_zero_iff.mp this.symm
    exact .inr (.inr (.inl ⟨p, p2, vs, ws, rfl, rfl, e1, e2, by rw [l1.1, l2.1]; exact hz, fun z => k S H _ _ μ (Le.refl S) r ay (n1 (nil l1 z)), fun z z2 => k S H _ _ μ (Le.refl S) r ax (n2 (fun w => z (by have := l1.1; rw [w] at this; exact List.length_eq_zero_iff.mp this)) (nil l2 z2)), fun _ _ => new_tup r (l1.append l2) q k⟩))
  cases d <;> first
    | exact fin hw
    | (cases e <;> first
        | exact fin hw
        | exact tt rfl rfl (fun z => by have q := hw.2; rw [z, List.nil_append] at q; exact q) (fun _ z => by have q := hw.2; rw [z, List.append_nil] at q; exact q) hw.1 hw.2
        | exact tt rfl rfl (fun z => absurd z hw.1) (fun _ z => absurd z hw.2.1) hw.2.2.1 hw.2.2.2
        | exact .inl ⟨_, _, ax.int_inv, ay.int_inv, k S H _ _ μ (Le.refl S) r (.int _) hw⟩
        | exact .inr (.inl ⟨_, _, ax.str_inv, ay.str_inv, hw.1, k S H _ _ μ (Le.refl S) r (.str _) hw.2⟩))
def oSub : OD := oI0 fun i j => .int (i - j)
theorem od_sub {K : PySem.W.Frag} : OpD K (rI0 fun i j => V.int (i - j)) oSub := op_I0 fun _ _ _ => .int _
def oMul : OD := oI CMul fun i j => .int (i * j)
theorem od_mul {K : PySem.W.Frag} : OpD K (rI CMul fun i j => V.int (i * j)) oMul := op_I fun _ _ _ => .int _
def oDiv : OD := oI CDiv fun i j => .int (i / j)
theorem od_div {K : PySem.W.Frag} : OpD K (rI CDiv fun i j => V.int (i / j)) oDiv := op_I fun _ _ _ => .int _
def oMod : OD := oI (fun _ j => 0 < j) fun i j => .int (i % j)
theorem od_mod {K : PySem.W.Frag} : OpD K (rI (fun _ j => 0 < j) fun i j => V.int (i % j)) oMod := op_I fun _ _ _ => .int _
def oPow : OD := oI CPow fun i j => .int (i ^ j.toNat)
theorem od_pow {K : PySem.W.Frag} : OpD K (rI CPow fun i j => V.int (i ^ j.toNat)) oPow := op_I fun _ _ _ => .int _
def oLt : OD := oI0 fun i j => .bl (decide (i < j))
theorem od_lt {K : PySem.W.Frag} : OpD K (rI0 fun i j => V.bl (decide (i < j))) oLt := op_I0 fun _ _ _ => .bl _
def oLe : OD := oI0 fun i j => .bl (decide (i ≤ j))
theorem od_le {K : PySem.W.Frag} : OpD K (rI0 fun i j => V.bl (decide (i ≤ j))) oLe := op_I0 fun _ _ _ => .bl _
def oGt : OD := oI0 fun i j => .bl (decide (j < i))
theorem od_gt {K : PySem.W.Frag} : OpD K (rI0 fun i j => V.bl (decide (j < i))) oGt := op_I0 fun _ _ _ => .bl _
def oGe : OD := oI0 fun i j => .bl (decide (j ≤ i))
theorem od_ge {K : PySem.W.Frag} : OpD K (rI0 fun i j => V.bl (decide (j ≤ i))) oGe := op_I0 fun _ _ _ => .bl _
/-- is None, is not None -/
def oIs (neg : Bool) : OD := fun x y μ Φ => y = .non ∧ Φ (.bl (match x with | .non => !neg | _ => neg)) μ
theorem od_isN {K : PySem.W.Frag} : OpD K (fun x y H Q => y = .non ∧ Q (.bl (decide (x = .non))) H) (oIs false) := by
  intro S H μ F x y d e Φ Q r ax ay ⟨h, q⟩ k
  subst h
  refine ⟨ay.non_inv, k S H _ _ μ (Le.refl S) r ?_ q⟩
  cases ax <;> exact .bl _
theorem od_notN {K : PySem.W.Frag} : OpD K (fun x y H Q => y = .non ∧ Q (.bl (!decide (x = .non))) H) (oIs true) := by
  intro S H μ F x y d e Φ Q r ax ay ⟨h, q⟩ k
  subst h
  refine ⟨ay.non_inv, k S H _ _ μ (Le.refl S) r ?_ q⟩
  cases ax <;> exact .bl _
/-! == -/
mutual
def toP (μ : Mu) : D → Option PyData
  | .non => some .none
  | .bl b => some (.bool b)
  | .int i => some (.int i)
  | .str x => some (.str x)
  | .lst xs => (toPs μ xs).map .list
  | .fro xs => (toPs μ xs).map .list
  | .tup xs => (toPs μ xs).map .tuple
  | .ktup xs => (toPs μ xs).map .tuple
  | .ftup xs => (toPs μ xs).map .tuple
  | _ => none
def toPs (μ : Mu) : List D → Option (List PyData)
  | [] => some []
  | x :: xs => match toP μ x, toPs μ xs with
    | some p, some ps => some (p :: ps)
    | _, _ => none
end
/-- also a list of the store, of plain data -/
def toPM (μ : Mu) : D → Option PyData
  | .adr a => (lisM (μ a)).bind fun xs => (toPs μ xs).map .list
  | d => toP μ d
section
variable {K : PySem.W.Frag} {S H : Hp} {μ F : Mu}
mutual
theorem dp_of (r : R K S H μ F) : ∀ {d : D} {v : V} {p : PyData}, At K S v d → toP μ d = some p → Dp K H v p
  | .non, v, p, a, h => by rw [toP] at h; cases h; cases a; exact .non
  | .bl b, v, p, a, h => by rw [toP] at h; cases h; cases a; exact .bl _
  | .int b, v, p, a, h => by rw [toP] at h; cases h; cases a; exact .int _
  | .str b, v, p, a, h => by rw [toP] at h; cases h; cases a; exact .str _
  | .lst xs, v, p, a, h => by
    rw [toP] at h
    cases e : toPs μ xs with
    | none => rw [e] at h; cases h
    | some ps =>
      rw [e] at h; cases h
      cases a with
      | lst hs hl hi => exact .lst (SqL.of (r.lst hs)) (dps_of r ⟨hl, hi⟩ e)
  | .fro xs, v, p, a, h => by
    rw [toP] at h
    cases e : toPs μ xs with
    | none => rw [e] at h; cases h
    | some ps =>
      rw [e] at h; cases h
      cases a with
      | fro hs hl hi => exact .lst (r.sqL hs) (dps_of r ⟨hl, hi⟩ e)
  | .tup xs, v, p, a, h => by
    rw [toP] at h
    cases e : toPs μ xs with
    | none => rw [e] at h; cases h
    | some ps =>
      rw [e] at h; cases h
      cases a with
      | tup hs hl hi => exact .tup (SqT.of (r.tup hs)) (dps_of r ⟨hl, hi⟩ e)
  | .ktup xs, v, p, a, h => by
    rw [toP] at h
    cases e : toPs μ xs with
    | none => rw [e] at h; cases h
    | some ps =>
      rw [e] at h; cases h
      cases a with
      | ktup hs hl hi => exact .tup (r.sqT hs) (dps_of r ⟨hl, hi⟩ e)
  | .ftup xs, v, p, a, h => by
    rw [toP] at h
    cases e : toPs μ xs with
    | none => rw [e] at h; cases h
    | some ps =>
      rw [e] at h; cases h
      cases a with
      | ftup hs hd hl hi => exact .tup (.inl (.inr ⟨_, r.ftup hs⟩)) (dps_of r ⟨hl, hi⟩ e)
  | .adr _, _, _, _, h => by simp [toP] at h
  | .ty _, _, _, _, h => by simp [toP] at h
  | .dK _, _, _, _, h => by simp [toP] at h
  | .dT _, _, _, _, h => by simp [toP] at h
  | .ins _ _, _, _, _, h => by simp [toP] at h
theorem dps_of (r : R K S H μ F) : ∀ {ds : List D} {vs : List V} {ps : List PyData}, AtL K S vs ds → toPs μ ds = some ps → DpAll K H vs ps
  | [], [], ps, a, h => by rw [toPs] at h; cases h; exact .nil
  | [], _ :: _, ps, a, h => by have := a.1; simp at this
  | d :: ds, [], ps, a, h => by have := a.1; simp at this
  | d :: ds, v :: vs, ps, a, h => by
    rw [toPs] at h
    cases e : toP μ d with
    | none => rw [e] at h; cases h
    | some p =>
      cases e2 : toPs μ ds with
      | none => rw [e, e2] at h; cases h
      | some ps' =>
        rw [e, e2] at h; cases h
        exact .cons (dp_of r a.head e) (dps_of r a.tail e2)
end
theorem dpm_of (r : R K S H μ F) {d : D} {v : V} {p : PyData} (a : At K S v d) (h : toPM μ d = some p) : Dp K H v p := by
  cases d with
  | adr b =>
    have h : ((lisM (μ b)).bind fun xs => (toPs μ xs).map .list) = some p := h
    cases e : lisM (μ b) with
    | none => rw [e] at h; cases h
    | some xs =>
      rw [e] at h
      obtain ⟨_, o, ho, hm⟩ := r.sto b _ (lisM_inv e)
      have h : (toPs μ xs).map PyData.list = some p := h
      cases e2 : toPs μ xs with
      | none => rw [e2] at h; cases h
      | some ps =>
        rw [e2] at h; cases h
        cases o <;> first | exact hm.elim | (rw [a.adr_inv]; exact .lst (SqL.of ho) (dps_of r hm e2))
  | _ => exact dp_of r a h
end
def oEq (neg : Bool) : OD := fun x y μ Φ => match x, y with
  | .int i, .int j => Φ (.bl (if neg then !decide (i = j) else decide (i = j))) μ
  | .str i, .str j => Φ (.bl (if neg then !decide (i = j) else decide (i = j))) μ
  | .bl i, .bl j => Φ (.bl (if neg then !decide (i = j) else decide (i = j))) μ
  | x, y => ∃ p q, toPM μ x = some p ∧ toPM μ y = some q ∧ SeqAt.shaped p = true ∧ SeqAt.shaped q = true ∧ Φ (.bl (if neg then !PyData.eqv p q else PyData.eqv p q)) μ
def rEqA (K : PySem.W.Frag) : R2 := fun x y H Q => rEq x y H Q ∨ rEqD K x y H Q
def rNeA (K : PySem.W.Frag) : R2 := fun x y H Q => rNe x y H Q ∨ rNeD K x y H Q
theorem op_eqA {k : Nat} (hr : Room k X.A) : OpR X (compareOp .Eq) (rEqA X.K) := op_eq.or (op_eqD hr.units)
theorem op_neA {k : Nat} (hr : Room k X.A) : OpR X (compareOp .NotEq) (rNeA X.K) := op_ne.or (op_neD hr.units)
theorem dec_iI (i j : Int) : decide (V.int i = V.int j) = decide (i = j) := by by_cases h : i = j <;> simp [h]
theorem dec_iS (i j : Str) : decide (V.str i = V.str j) = decide (i = j) := by by_cases h : i = j <;> simp [h]
theorem dec_iB (i j : Bool) : decide (V.bl i = V.bl j) = decide (i = j) := by by_cases h : i = j <;> simp [h]
theorem od_eq {K : PySem.W.Frag} : OpD K (rEqA K) (oEq false) := by
  intro S H μ F x y d e Φ Q r ax ay hw k
  have fin : (∃ p q, toPM μ d = some p ∧ toPM μ e = some q ∧ SeqAt.shaped p = true ∧ SeqAt.shaped q = true ∧ Φ (.bl (PyData.eqv p q)) μ) → rEqA K x y H Q := by
    rintro ⟨p, q, h1, h2, s1, s2, h⟩
    exact .inr ⟨p, q, dpm_of r ax h1, dpm_of r ay h2, s1, s2, k S H _ _ μ (Le.refl S) r (.bl _) h⟩
  cases d <;> first
    | exact fin hw
    | (cases e <;> first
        | exact fin hw
        | (cases ax; cases ay; refine .inl ⟨rfl, ?_⟩; first | rw [dec_iI] | rw [dec_iS] | rw [dec_iB]
           exact k S H _ _ μ (Le.refl S) r (.bl _) hw))
theorem od_ne {K : PySem.W.Frag} : OpD K (rNeA K) (oEq true) := by
  intro S H μ F x y d e Φ Q r ax ay hw k
  have fin : (∃ p q, toPM μ d = some p ∧ toPM μ e = some q ∧ SeqAt.shaped p = true ∧ SeqAt.shaped q = true ∧ Φ (.bl (!PyData.eqv p q)) μ) → rNeA K x y H Q := by
    rintro ⟨p, q, h1, h2, s1, s2, h⟩
    exact .inr ⟨p, q, dpm_of r ax h1, dpm_of r ay h2, s1, s2, k S H _ _ μ (Le.refl S) r (.bl _) h⟩
  cases d <;> first
    | exact fin hw
    | (cases e <;> first
        | exact fin hw
        | (cases ax; cases ay; refine .inl ⟨rfl, ?_⟩; first | rw [dec_iI] | rw [dec_iS] | rw [dec_iB]
           exact k S H _ _ μ (Le.refl S) r (.bl _) hw))
/-- x in xs, flat items -/
def oIn (neg : Bool) : OD := fun x y μ Φ => ∃ ds, itemsD μ y = some ds ∧ (flatD x).isSome = true ∧ ds.all (fun d => (flatD d).isSome) = true ∧ Φ (.bl (if neg then !inD x ds else inD x ds)) μ
theorem od_in {K : PySem.W.Frag} {neg : Bool} : OpD K (rIn K neg) (oIn neg) := by
  intro S H μ F x y d e Φ Q r ax ay ⟨ds, h1, h2, h3, q⟩ k
  obtain ⟨p, vs, rfl, hs, hl⟩ := items_at r ay h1
  obtain ⟨w, hw⟩ := Option.isSome_iff_exists.mp h2
  obtain ⟨ex, fx⟩ := flat_at ax hw
  obtain ⟨ev, fv⟩ := flat_all hl h3
  have e : inD d ds = inV x vs := by unfold inD; rw [hw, ← ev, ex]
  exact ⟨p, vs, rfl, hs, fx, fv, k S H _ _ μ (Le.refl S) r (by rw [← e]; exact .bl _) q⟩
end
end DL

/-! # DL4: tests, calls, fields, displays, statements, loops, defs -/
namespace DL
open PySem L2

section
variable {X : Cx} {W : WX}
/-! ### tests -/
def dAnd (t u : TDT) : TDT := fun γ μ Ξ Φ => t γ μ Ξ fun b μ1 => if b = true then u γ μ1 Ξ Φ else Φ false μ1
def dOr (t u : TDT) : TDT := fun γ μ Ξ Φ => t γ μ Ξ fun b μ1 => if b = true then Φ true μ1 else u γ μ1 Ξ Φ
def dNot (t : TDT) : TDT := fun γ μ Ξ Φ => t γ μ Ξ fun b μ1 => Φ (!b) μ1
section
variable {a b : Expr} {rest : List Expr} {t u : TDT} {pos : Pos}
theorem w_and1 (h : PT X a (tDT X.K W t)) : PW X (.BoolOp .And [a] pos) (tDT X.K W t) := pw_and1 h
theorem w_or1 (h : PT X a (tDT X.K W t)) : PW X (.BoolOp .Or [a] pos) (tDT X.K W t) := pw_or1 h
theorem w_and (ha : PT X a (tDT X.K W t)) (hb : PW X (.BoolOp .And (b :: rest) pos) (tDT X.K W u)) : PW X (.BoolOp .And (a :: b :: rest) pos) (tDT X.K W (dAnd t u)) :=
  pw_imp (pw_and ha hb) fun σ H Q ⟨S, γ, μ, F, Ξ, Φ, hE, hR, hX, hw, hq⟩ => ⟨S, γ, μ, F, Ξ, _, hE, hR, hX, hw, fun S1 H1 c μ1 l1 r1 q1 => by
    cases c with
    | true => rw [if_pos rfl] at q1 ⊢; exact ⟨S1, γ, μ1, F, Ξ, Φ, hE.mono l1, r1, hX.mono l1, q1, fun S2 H2 d μ2 l2 r2 q2 => hq S2 H2 d μ2 (l1.trans l2) r2 q2⟩
    | false => rw [if_neg Bool.false_ne_true] at q1 ⊢; exact hq S1 H1 false μ1 l1 r1 q1⟩
theorem w_or (ha : PT X a (tDT X.K W t)) (hb : PW X (.BoolOp .Or (b :: rest) pos) (tDT X.K W u)) : PW X (.BoolOp .Or (a :: b :: rest) pos) (tDT X.K W (dOr t u)) :=
  pw_imp (pw_or ha hb) fun σ H Q ⟨S, γ, μ, F, Ξ, Φ, hE, hR, hX, hw, hq⟩ => ⟨S, γ, μ, F, Ξ, _, hE, hR, hX, hw, fun S1 H1 c μ1 l1 r1 q1 => by
    cases c with
    | false => rw [if_neg Bool.false_ne_true] at q1 ⊢; exact ⟨S1, γ, μ1, F, Ξ, Φ, hE.mono l1, r1, hX.mono l1, q1, fun S2 H2 d μ2 l2 r2 q2 => hq S2 H2 d μ2 (l1.trans l2) r2 q2⟩
    | true => rw [if_pos rfl] at q1 ⊢; exact hq S1 H1 true μ1 l1 r1 q1⟩
theorem t_not (ha : PT X a (tDT X.K W t)) : PT X (.UnaryOp .Not a pos) (tDT X.K W (dNot t)) :=
  pt_imp (pt_not ha) fun σ H Q ⟨S, γ, μ, F, Ξ, Φ, hE, hR, hX, hw, hq⟩ => ⟨S, γ, μ, F, Ξ, _, hE, hR, hX, hw, fun S1 H1 c μ1 l1 r1 q1 => hq S1 H1 (!c) μ1 l1 r1 q1⟩
/-- truth -/
def truD (μ : Mu) : D → Option Bool
  | .non => some false
  | .bl b => some b
  | .int i => some (i != 0)
  | .str x => if x.length ≤ sizeLine then some ((x.length : Int) != 0) else none
  | .lst xs => some (!xs.isEmpty)
  | .fro xs => some (!xs.isEmpty)
  | .tup xs => some (!xs.isEmpty)
  | .ktup xs => some (!xs.isEmpty)
  | .ftup xs => some (!xs.isEmpty)
  | .adr a => match μ a with
    | some (.lst xs) => some (!xs.isEmpty)
    | some (.dK kvs) => some (!kvs.isEmpty)
    | _ => none
  | _ => none
theorem empty_at {K : PySem.W.Frag} {S : Hp} {vs : List V} {ds : List D} (a : AtL K S vs ds) : vs.isEmpty = ds.isEmpty := by
  have := a.1
  cases vs <;> cases ds <;> first | rfl | (simp at this)
theorem tru_at {K : PySem.W.Frag} {S H : Hp} {μ F : Mu} {v : V} {d : D} {b : Bool} (r : R K S H μ F) (a : At K S v d) (h : truD μ d = some b) : TruV K v H b := by
  cases a with
  | non => cases h; rfl
  | bl c => cases h; rfl
  | int i => cases h; rfl
  | str x =>
    have h : (if x.length ≤ sizeLine then some ((x.length : Int) != 0) else none) = some b := h
    by_cases z : x.length ≤ sizeLine
    · rw [if_pos z] at h; cases h; exact ⟨z, rfl⟩
    · rw [if_neg z] at h; cases h
  | lst hs hl hi => cases h; exact .inl ⟨_, SqL.of (r.lst hs), by rw [empty_at ⟨hl, hi⟩]⟩
  | fro hs hl hi => cases h; exact .inl ⟨_, r.sqL hs, by rw [empty_at ⟨hl, hi⟩]⟩
  | tup hs hl hi => cases h; exact .inr (.inl ⟨_, SqT.of (r.tup hs), by rw [empty_at ⟨hl, hi⟩]⟩)
  | ktup hs hl hi => cases h; exact .inr (.inl ⟨_, r.sqT hs, by rw [empty_at ⟨hl, hi⟩]⟩)
  | ftup hs hd hl hi => cases h; exact .inr (.inl ⟨_, .inl (.inr ⟨_, r.ftup hs⟩), by rw [empty_at ⟨hl, hi⟩]⟩)
  | adr p =>
    have h : (match μ p with
      | some (MO.lst xs) => some (!xs.isEmpty)
      | some (MO.dK kvs) => some (!kvs.isEmpty)
      | _ => none) = some b := h
    cases e : μ p with
    | none => rw [e] at h; cases h
    | some m =>
      obtain ⟨_, o, ho, hm⟩ := r.sto p m e
      rw [e] at h
      cases m with
      | lst xs => cases h; cases o <;> first | exact hm.elim | exact .inl ⟨_, SqL.of ho, by rw [empty_at hm]⟩
      | dK kvs =>
        cases h
        cases o <;> first | exact hm.elim | exact .inr (.inr ⟨_, ho, by
          have := hm.2.1
          simp only [List.length_map] at this
          rename_i k1
          cases k1 <;> cases kvs <;> first | rfl | (simp at this)⟩)
      | _ => cases h
  | _ => cases h
def dTru (w : TD) : TDT := fun γ μ Ξ Φ => w γ μ Ξ fun d μ1 => ∃ b, truD μ1 d = some b ∧ Φ b μ1
theorem t_tru {w : TD} (ha : PE X a (tD X.K W w)) (he : ∀ whole, isTrue a X.env whole = (do let v ← whole; standAt a.pos; holding [v] (truthy v)) := by intro _; rfl) : PT X a (tDT X.K W (dTru w)) :=
  pt_imp (pt_truth ha he) fun σ H Q ⟨S, γ, μ, F, Ξ, Φ, hE, hR, hX, hw, hq⟩ => ⟨S, γ, μ, F, Ξ, _, hE, hR, hX, hw, fun S1 H1 v d μ1 l1 r1 a1 ⟨b, e, q1⟩ => ⟨b, tru_at r1 a1 e, hq S1 H1 b μ1 l1 r1 q1⟩⟩
/-- values of and, or, not: bools -/
def dAndV (wa wb : TD) : TD := fun γ μ Ξ Φ => wa γ μ Ξ fun d μ1 => ∃ c, d = .bl c ∧ if c = true then wb γ μ1 Ξ Φ else Φ (.bl false) μ1
def dOrV (wa wb : TD) : TD := fun γ μ Ξ Φ => wa γ μ Ξ fun d μ1 => ∃ c, d = .bl c ∧ if c = true then Φ (.bl true) μ1 else wb γ μ1 Ξ Φ
def dNotV (wa : TD) : TD := fun γ μ Ξ Φ => wa γ μ Ξ fun d μ1 => ∃ c, d = .bl c ∧ Φ (.bl (!c)) μ1
theorem e_one {op} {w : TD} (h : PE X a (tD X.K W w)) : PE X (.BoolOp op [a] pos) (tD X.K W w) := pe_one h
theorem e_and {wa wb : TD} (ha : PE X a (tD X.K W wa)) (hb : PE X (.BoolOp .And (b :: rest) pos) (tD X.K W wb)) : PE X (.BoolOp .And (a :: b :: rest) pos) (tD X.K W (dAndV wa wb)) :=
  pe_imp (pe_and ha hb) fun σ H Q ⟨S, γ, μ, F, Ξ, Φ, hE, hR, hX, hw, hq⟩ => ⟨S, γ, μ, F, Ξ, _, hE, hR, hX, hw, fun S1 H1 v d μ1 l1 r1 a1 ⟨c, e, q1⟩ => ⟨c, by subst e; exact a1.bl_inv, by
    cases c with
    | true => rw [if_pos rfl] at q1 ⊢; exact ⟨S1, γ, μ1, F, Ξ, Φ, hE.mono l1, r1, hX.mono l1, q1, fun S2 H2 v2 d μ2 l2 r2 a2 q2 => hq S2 H2 v2 d μ2 (l1.trans l2) r2 a2 q2⟩
    | false => rw [if_neg Bool.false_ne_true] at q1 ⊢; exact hq S1 H1 _ _ μ1 l1 r1 (.bl false) q1⟩⟩
theorem e_or {wa wb : TD} (ha : PE X a (tD X.K W wa)) (hb : PE X (.BoolOp .Or (b :: rest) pos) (tD X.K W wb)) : PE X (.BoolOp .Or (a :: b :: rest) pos) (tD X.K W (dOrV wa wb)) :=
  pe_imp (pe_or ha hb) fun σ H Q ⟨S, γ, μ, F, Ξ, Φ, hE, hR, hX, hw, hq⟩ => ⟨S, γ, μ, F, Ξ, _, hE, hR, hX, hw, fun S1 H1 v d μ1 l1 r1 a1 ⟨c, e, q1⟩ => ⟨c, by subst e; exact a1.bl_inv, by
    cases c with
    | false => rw [if_neg Bool.false_ne_true] at q1 ⊢; exact ⟨S1, γ, μ1, F, Ξ, Φ, hE.mono l1, r1, hX.mono l1, q1, fun S2 H2 v2 d μ2 l2 r2 a2 q2 => hq S2 H2 v2 d μ2 (l1.trans l2) r2 a2 q2⟩
    | true => rw [if_pos rfl] at q1 ⊢; exact hq S1 H1 _ _ μ1 l1 r1 (.bl true) q1⟩⟩
theorem e_not {wa : TD} (ha : PE X a (tD X.K W wa)) : PE X (.UnaryOp .Not a pos) (tD X.K W (dNotV wa)) :=
  pe_imp (pe_not ha) fun σ H Q ⟨S, γ, μ, F, Ξ, Φ, hE, hR, hX, hw, hq⟩ => ⟨S, γ, μ, F, Ξ, _, hE, hR, hX, hw, fun S1 H1 v d μ1 l1 r1 a1 ⟨c, e, q1⟩ => ⟨c, by subst e; exact a1.bl_inv, hq S1 H1 _ _ μ1 l1 r1 (.bl _) q1⟩⟩
def dIfE (t : TDT) (wa wb : TD) : TD := fun γ μ Ξ Φ => t γ μ Ξ fun c μ1 => if c = true then wa γ μ1 Ξ Φ else wb γ μ1 Ξ Φ
theorem e_if {c : Expr} {wa wb : TD} (hc : PT X c (tDT X.K W t)) (ha : PE X a (tD X.K W wa)) (hb : PE X b (tD X.K W wb)) : PE X (.IfExp c a b pos) (tD X.K W (dIfE t wa wb)) :=
  pe_imp (pe_ifExp hc ha hb) fun σ H Q ⟨S, γ, μ, F, Ξ, Φ, hE, hR, hX, hw, hq⟩ => ⟨S, γ, μ, F, Ξ, _, hE, hR, hX, hw, fun S1 H1 c μ1 l1 r1 q1 => by
    cases c with
    | true => rw [if_pos rfl] at q1 ⊢; exact ⟨S1, γ, μ1, F, Ξ, Φ, hE.mono l1, r1, hX.mono l1, q1, fun S2 H2 v2 d μ2 l2 r2 a2 q2 => hq S2 H2 v2 d μ2 (l1.trans l2) r2 a2 q2⟩
    | false => rw [if_neg Bool.false_ne_true] at q1 ⊢; exact ⟨S1, γ, μ1, F, Ξ, Φ, hE.mono l1, r1, hX.mono l1, q1, fun S2 H2 v2 d μ2 l2 r2 a2 q2 => hq S2 H2 v2 d μ2 (l1.trans l2) r2 a2 q2⟩⟩
/-- a <= b < c -/
def dChain (o1 o2 : OD) (wa wb wc : TD) : TDT := fun γ μ Ξ Φ => wa γ μ Ξ fun x μ1 => wb γ μ1 Ξ fun y μ2 => o1 x y μ2 fun z μ3 => ∃ k, z = .bl k ∧ if k = true then wc γ μ3 Ξ fun z2 μ4 => o2 y z2 μ4 fun d μ5 => ∃ k2, d = .bl k2 ∧ Φ k2 μ5 else Φ false μ3
end

/-! ### arguments -/
def dNil : TDA := fun _ μ _ Φ => Φ [] μ
def dCons (w : TD) (t : TDA) : TDA := fun γ μ Ξ Φ => w γ μ Ξ fun d μ1 => t γ μ1 Ξ fun ds μ2 => Φ (d :: ds) μ2
theorem a_nil : PA X [] (tDA X.K W dNil) := pa_imp pa_nil fun σ H Q ⟨S, γ, μ, F, Ξ, Φ, hE, hR, hX, hw, hq⟩ => hq S H [] [] μ (Le.refl S) hR .nil hw
theorem a_cons {e : Expr} {es : List Expr} {w : TD} {t : TDA} (he : PE X e (tD X.K W w)) (hr : PA X es (tDA X.K W t)) (hs : starEach (e :: es) X.env = (false, eval e X.env) :: starEach es X.env := by rfl) : PA X (e :: es) (tDA X.K W (dCons w t)) :=
  pa_imp (pa_cons he hr hs) fun σ H Q ⟨S, γ, μ, F, Ξ, Φ, hE, hR, hX, hw, hq⟩ => ⟨S, γ, μ, F, Ξ, _, hE, hR, hX, hw, fun S1 H1 v d μ1 l1 r1 a1 q1 => ⟨S1, γ, μ1, F, Ξ, _, hE.mono l1, r1, hX.mono l1, q1, fun S2 H2 vs ds μ2 l2 r2 a2 q2 =>
    hq S2 H2 _ _ μ2 (l1.trans l2) r2 (.cons (a1.mono l2) a2) q2⟩⟩
def dStar (w : TD) (t : TDA) : TDA := fun γ μ Ξ Φ => w γ μ Ξ fun d μ1 => ∃ xs, itemsD μ1 d = some xs ∧ t γ μ1 Ξ fun ds μ2 => Φ (xs ++ ds) μ2
theorem a_star {e : Expr} {es : List Expr} {w : TD} {t : TDA} {p : Pos} (he : PE X e (tD X.K W w)) (hr : PA X es (tDA X.K W t)) (hs : starEach (.Starred e p :: es) X.env = (true, eval e X.env) :: starEach es X.env := by rfl) : PA X (.Starred e p :: es) (tDA X.K W (dStar w t)) :=
  pa_imp (StX.pa_star he hr hs) fun σ H Q ⟨S, γ, μ, F, Ξ, Φ, hE, hR, hX, hw, hq⟩ => ⟨S, γ, μ, F, Ξ, _, hE, hR, hX, hw, fun S1 H1 v d μ1 l1 r1 a1 ⟨xs, ex, q1⟩ => by
    obtain ⟨p, vs, rfl, hs, hl⟩ := items_at r1 a1 ex
    exact ⟨p, vs, rfl, hs.symm, S1, γ, μ1, F, Ξ, _, hE.mono l1, r1, hX.mono l1, q1, fun S2 H2 ws ds μ2 l2 r2 a2 q2 => hq S2 H2 _ _ μ2 (l1.trans l2) r2 ((hl.mono l2).append a2) q2⟩⟩

/-! ### defs and their promises -/
abbrev XF := Value → List (Str × D) → Mu → Prop
abbrev TF := List D → Mu → XF → KD → Prop
def SpD (K : PySem.W.Frag) (w : TF) : Sp := fun vs H Q E => ∃ S ds μ F Ξ Φ, AtL K S vs ds ∧ R K S H μ F ∧ w ds μ Ξ Φ ∧ (∀ S' H' v d μ', Le S S' → R K S' H' μ' F → At K S' v d → Φ d μ' → Q v H') ∧
  ∀ S' H' cls xd fs μ', Le S S' → R K S' H' μ' F → XAt K S' xd fs → Ξ cls fs μ' → E cls xd H'
/-- what a call of f gives, by data -/
def CalD (X : Cx) (W : WX) (f : Addr) (w : TF) : Prop := CallS X f fun σ vs H Q => ∃ S γ ds μ F Ξ Φ, Env X.K S σ γ ∧ AtL X.K S vs ds ∧ R X.K S H μ F ∧ XOk X.K S F W Ξ ∧ w ds μ (Ξ γ) Φ ∧ ∀ S' H' v d μ', Le S S' → R X.K S' H' μ' F → At X.K S' v d → Φ d μ' → Q v H'
theorem cal_imp {f : Addr} {r r' : RS} (h : CallS X f r) (i : ∀ σ vs H Q, r' σ vs H Q → r σ vs H Q) : CallS X f r' := fun pins s σ H vs us Q I rv q => h pins s σ H vs us Q I rv (i σ vs H Q q)
abbrev FnD (P : Program) (w : World) (K : PySem.W.Frag) (mg : Str → Option Value) (base : Heap) (k : Nat) (f : Addr) (t : TF) : Prop := FnR P w K mg base (L2.CX P w) k f (SpD K t)
theorem cal_def {n : Nat} {f : Addr} {w : TF} (F : FnD X.prog X.w X.K X.mg X.base n f w) (hr : Room n X.A) (tk : Takes X W) : CalD X W f w :=
  cal_imp (calls_def F hr (Ew := WE W) fun σ => passAt tk σ) fun σ vs H Q ⟨S, γ, ds, μ, F, Ξ, Φ, hE, ha, hR, hX, hw, hq⟩ =>
    ⟨S, ds, μ, F, Ξ γ, Φ, ha, hR, hw, hq, fun S' H' cls xd fs μ' l r x q => hX S' H' σ γ cls xd fs μ' l (hE.mono l) r x q⟩
/-- a class is called: a new instance, then __init__ -/
def wMake (C : Addr) (w : TF) : TF := fun ds μ Ξ Φ => ∀ x, μ x = none → w (.adr x :: ds) (updM μ x (.ins C [])) Ξ fun d μ' => d = .non ∧ Φ (.adr x) μ'
theorem cal_class {n : Nat} {f C : Addr} {w : TF} (M : Mk X.K C f) (F : FnD X.prog X.w X.K X.mg X.base n f w) (hr : Room (n + 1) X.A) (tk : Takes X W) : CalD X W C (wMake C w) :=
  cal_imp (calls_class M F hr (Ew := WE W) fun σ => passAt tk σ) fun σ vs H Q ⟨S, γ, ds, μ, F, Ξ, Φ, hE, ha, hR, hX, hw, hq⟩ => fun x dx hx hdx hne => by
    have r1 : R X.K S (upd H dx (.own x)) μ F := hR.newF hdx
    have hx1 : upd H dx (HO.own x) x = none := by rw [upd_ne (Ne.symm hne)]; exact hx
    have r2 : R X.K S (upd (upd H dx (.own x)) x (.ins C dx [])) (updM μ x (.ins C [])) F := r1.newM hx1 ⟨rfl, rfl, .nil⟩
    refine ⟨S, .adr x :: ds, _, F, Ξ γ, _, .cons (.adr x) ha, r2, hw x (hR.freeM hx), fun S' H' v d μ' l r a ⟨e, q⟩ => ?_, fun S' H' cls xd fs μ' l r x q => hX S' H' σ γ cls xd fs μ' l (hE.mono l) r x q⟩
    subst e
    exact ⟨a.non_inv, hq S' H' (.ref x) (.adr x) μ' l r (.adr x) q⟩
def dCall (w : TF) (t : TDA) : TD := fun γ μ Ξ Φ => t γ μ Ξ fun ds μ1 => w ds μ1 (Ξ γ) Φ
section
variable {f C : Addr} {w : TF} {x m : Str} {e o : Expr} {es : List Expr} {t : TDA} {we wo : TD} {p pos apos sp_ : Pos}
theorem call_go {σ : L2.St} {H : Hp} {Q : VK} (h : tD X.K W (dCall w t) σ H Q) : tDA X.K W t σ H fun vs H1 => ∃ S γ ds μ F Ξ Φ, Env X.K S σ γ ∧ AtL X.K S vs ds ∧ R X.K S H1 μ F ∧ XOk X.K S F W Ξ ∧ w ds μ (Ξ γ) Φ ∧ ∀ S' H' v d μ', Le S S' → R X.K S' H' μ' F → At X.K S' v d → Φ d μ' → Q v H' := by
  obtain ⟨S, γ, μ, F, Ξ, Φ, hE, hR, hX, hw, hq⟩ := h
  exact ⟨S, γ, μ, F, Ξ, _, hE, hR, hX, hw, fun S1 H1 vs ds μ1 l1 r1 a1 q1 => ⟨S1, γ, ds, μ1, F, Ξ, Φ, hE.mono l1, a1, r1, hX.mono l1, q1, fun S2 H2 v d μ2 l2 r2 a2 q2 => hq S2 H2 v d μ2 (l1.trans l2) r2 a2 q2⟩⟩
theorem e_call (c : CalD X W f w) (hm : X.mg x = some (.ref f)) (hk : PySem.W.keepIn X.K (.ref f) = true) (ha : PA X (e :: es) (tDA X.K W t)) (hg : Gl X x := by rfl) (hdb : (x == ("__debug__" : Str)) = false := by decide)
    (he : starEach (e :: es) X.env = (false, eval e X.env) :: starEach es X.env := by rfl) (hpl : (backTo pos (starEach es X.env)).any (·.1) = false := by rfl) : PE X (.Call (.Name x p) (e :: es) [] pos) (tD X.K W (dCall w t)) :=
  pe_imp (pe_cs c hm hk ha hg hdb he hpl) fun _ _ _ h => call_go h
theorem e_callT (c : CalD X W f w) (hm : X.mg x = some (.ref f)) (hk : PySem.W.keepIn X.K (.ref f) = true) (ha : PA X (e :: es) (tDA X.K W t)) (hg : Gl X x := by rfl) (hdb : (x == ("__debug__" : Str)) = false := by decide)
    (he : starEach (e :: es) X.env = (false, eval e X.env) :: starEach es X.env := by rfl) (hst : (backTo pos (starEach es X.env)).any (·.1) = true := by rfl) : PE X (.Call (.Name x p) (e :: es) [] pos) (tD X.K W (dCall w t)) :=
  pe_imp (pe_csT c hm hk ha hg hdb he hst) fun _ _ _ h => call_go h
theorem e_call0 (c : CalD X W f w) (hm : X.mg x = some (.ref f)) (hk : PySem.W.keepIn X.K (.ref f) = true) (hg : Gl X x := by rfl) (hdb : (x == ("__debug__" : Str)) = false := by decide) : PE X (.Call (.Name x p) [] [] pos) (tD X.K W (dCall w dNil)) :=
  pe_imp (pe_cs0 c hm hk hg hdb) fun σ H Q ⟨S, γ, μ, F, Ξ, Φ, hE, hR, hX, hw, hq⟩ => ⟨S, γ, [], μ, F, Ξ, Φ, hE, .nil, hR, hX, hw, hq⟩
theorem e_callS (c : CalD X W f w) (hm : X.mg x = some (.ref f)) (hk : PySem.W.keepIn X.K (.ref f) = true) (he : PE X e (tD X.K W we)) (hg : Gl X x := by rfl) (hdb : (x == ("__debug__" : Str)) = false := by decide)
    (hst : starEach [.Starred e sp_] X.env = [(true, eval e X.env)] := by rfl) : PE X (.Call (.Name x p) [.Starred e sp_] [] pos) (tD X.K W (dCall w (dStar we dNil))) :=
  pe_imp (pe_csS c hm hk he hg hdb hst) fun σ H Q ⟨S, γ, μ, F, Ξ, Φ, hE, hR, hX, hw, hq⟩ => ⟨S, γ, μ, F, Ξ, _, hE, hR, hX, hw, fun S1 H1 v d μ1 l1 r1 a1 ⟨xs, ex, q1⟩ => by
    obtain ⟨p, vs, rfl, hs, hl⟩ := items_at r1 a1 ex
    have q1 : w (xs ++ []) μ1 (Ξ γ) Φ := q1
    rw [List.append_nil] at q1
    exact ⟨p, vs, rfl, hs.symm, S1, γ, xs, μ1, F, Ξ, Φ, hE.mono l1, hl, r1, hX.mono l1, q1, fun S2 H2 v d μ2 l2 r2 a2 q2 => hq S2 H2 v d μ2 (l1.trans l2) r2 a2 q2⟩⟩
/-- an instance: its class, its fields -/
def insM : Option MO → Option (Addr × List (Str × D))
  | some (.ins C fs) => some (C, fs)
  | _ => none
theorem insM_inv {o : Option MO} {C : Addr} {fs : List (Str × D)} (h : insM o = some (C, fs)) : o = some (.ins C fs) := by
  cases o with
  | none => cases h
  | some m => cases m <;> first | (cases h; rfl) | cases h
def insD (μ : Mu) : D → Option (Addr × List (Str × D))
  | .ins C fs => some (C, fs)
  | .adr a => insM (μ a)
  | _ => none
theorem ins_d {K : PySem.W.Frag} {S H : Hp} {μ F : Mu} {v : V} {d : D} {C : Addr} {gs : List (Str × D)} (r : R K S H μ F) (a : At K S v d) (h : insD μ d = some (C, gs)) :
    ∃ p dx fs, v = .ref p ∧ H p = some (.ins C dx fs) ∧ fs.map (·.1) = gs.map (·.1) ∧ AtL K S (fs.map (·.2)) (gs.map (·.2)) := by
  cases a with
  | @ins p C' dx fs gs' hs hk hi =>
    cases h
    exact ⟨p, dx, fs, rfl, r.ins hs, hk, by have := congrArg List.length hk; simpa using this, hi⟩
  | adr p =>
    obtain ⟨_, o, ho, hm⟩ := r.sto p _ (insM_inv (show insM (μ p) = some (C, gs) from h))
    cases o <;> first | exact hm.elim | (obtain ⟨rfl, h1, h2⟩ := hm; exact ⟨p, _, _, rfl, ho, h1, h2⟩)
  | _ => cases h
theorem look_none {fs : List (Str × V)} {gs : List (Str × D)} {m : Str} (h : fs.map (·.1) = gs.map (·.1)) (g : gs.lookup m = none) : fs.lookup m = none := by
  induction fs generalizing gs with
  | nil => rfl
  | cons p fs ih =>
    cases gs with
    | nil => simp at h
    | cons q gs =>
      simp only [List.map_cons, List.cons.injEq] at h
      obtain ⟨n, v⟩ := p
      obtain ⟨n2, d⟩ := q
      simp only at h
      obtain ⟨e, h⟩ := h
      subst e
      rw [List.lookup_cons] at g ⊢
      cases z : (m == n) with
      | true => rw [z] at g; cases g
      | false => rw [z] at g; exact ih h g
theorem look_some {K : PySem.W.Frag} {S : Hp} {fs : List (Str × V)} {gs : List (Str × D)} {m : Str} {d : D} (h : fs.map (·.1) = gs.map (·.1)) (a : AtL K S (fs.map (·.2)) (gs.map (·.2))) (g : gs.lookup m = some d) : ∃ v, fs.lookup m = some v ∧ At K S v d := by
  induction fs generalizing gs with
  | nil => cases gs with
    | nil => cases g
    | cons q gs => simp at h
  | cons p fs ih =>
    cases gs with
    | nil => simp at h
    | cons q gs =>
      simp only [List.map_cons, List.cons.injEq] at h
      obtain ⟨n, v⟩ := p
      obtain ⟨n2, d2⟩ := q
      simp only at h
      obtain ⟨e, h⟩ := h
      subst e
      rw [List.lookup_cons] at g ⊢
      cases z : (m == n) with
      | true => rw [z] at g; cases g; exact ⟨v, rfl, a.head⟩
      | false => rw [z] at g; exact ih h a.tail g
def dMeth (C : Addr) (m : Str) (w : TF) (wo : TD) (t : TDA) : TD := fun γ μ Ξ Φ => wo γ μ Ξ fun d μ1 => ∃ fs, insD μ1 d = some (C, fs) ∧ fs.lookup m = none ∧ t γ μ1 Ξ fun ds μ2 => w (d :: ds) μ2 (Ξ γ) Φ
theorem e_meth {pl : Sem Bool} (c : CalD X W f w) (cl : Cls X.K C) (hm : Meth X.K C m f) (ho : PE X o (tD X.K W wo)) (ha : PA X (e :: es) (tDA X.K W t))
    (hst : starEach (e :: es) X.env = (false, eval e X.env) :: starEach es X.env := by rfl) (hpl : (backTo pos (starEach es X.env)).any (·.1) = false := by rfl)
    (ht : eval (.Call (.Attribute o m apos) (e :: es) [] pos) X.env = (do
      let ov ← eval o X.env
      standAt apos.atName
      let (f, first) ← holding [ov] (getMethod ov m pl)
      callWith pos f first (backTo pos (starEach (e :: es) X.env)) (backToKw pos (keywordEach [] X.env))) := by rfl) : PE X (.Call (.Attribute o m apos) (e :: es) [] pos) (tD X.K W (dMeth C m w wo t)) :=
  pe_imp (pe_ms ho cl hm c ha hst hpl ht) fun σ H Q ⟨S, γ, μ, F, Ξ, Φ, hE, hR, hX, hw, hq⟩ => ⟨S, γ, μ, F, Ξ, _, hE, hR, hX, hw, fun S1 H1 v d μ1 l1 r1 a1 ⟨fs, h1, h2, q1⟩ => by
    obtain ⟨p, dx, vs, rfl, hp, hk, hl⟩ := ins_d r1 a1 h1
    exact ⟨p, dx, vs, rfl, hp, look_none hk h2, S1, γ, μ1, F, Ξ, _, hE.mono l1, r1, hX.mono l1, q1, fun S2 H2 ws ds μ2 l2 r2 a2 q2 => ⟨S2, γ, d :: ds, μ2, F, Ξ, Φ, hE.mono (l1.trans l2), .cons (a1.mono l2) a2, r2, hX.mono (l1.trans l2), q2, fun S3 H3 v d μ3 l3 r3 a3 q3 => hq S3 H3 v d μ3 (l1.trans (l2.trans l3)) r3 a3 q3⟩⟩⟩
theorem e_meth0 {pl : Sem Bool} (c : CalD X W f w) (cl : Cls X.K C) (hm : Meth X.K C m f) (ho : PE X o (tD X.K W wo))
    (ht : eval (.Call (.Attribute o m apos) [] [] pos) X.env = (do
      let ov ← eval o X.env
      standAt apos.atName
      let (f, first) ← holding [ov] (getMethod ov m pl)
      callWith pos f first (backTo pos (starEach [] X.env)) (backToKw pos (keywordEach [] X.env))) := by rfl) : PE X (.Call (.Attribute o m apos) [] [] pos) (tD X.K W (dMeth C m w wo dNil)) :=
  pe_imp (pe_ms0 ho cl hm c ht) fun σ H Q ⟨S, γ, μ, F, Ξ, Φ, hE, hR, hX, hw, hq⟩ => ⟨S, γ, μ, F, Ξ, _, hE, hR, hX, hw, fun S1 H1 v d μ1 l1 r1 a1 ⟨fs, h1, h2, q1⟩ => by
    obtain ⟨p, dx, vs, rfl, hp, hk, hl⟩ := ins_d r1 a1 h1
    exact ⟨p, dx, vs, rfl, hp, look_none hk h2, S1, γ, [d], μ1, F, Ξ, Φ, hE.mono l1, .cons a1 .nil, r1, hX.mono l1, q1, fun S3 H3 v d μ3 l3 r3 a3 q3 => hq S3 H3 v d μ3 (l1.trans l3) r3 a3 q3⟩⟩

/-! ### fields -/
def dFld (C : Addr) (f : Str) (w : TD) : TD := fun γ μ Ξ Φ => w γ μ Ξ fun d μ1 => ∃ fs x, insD μ1 d = some (C, fs) ∧ fs.lookup f = some x ∧ Φ x μ1
theorem e_fld {fn : Str} (cl : Cls X.K C) (na : NoAttr X.K C fn) (ho : PE X e (tD X.K W we)) (hb : attributeBase e fn X.env (eval e X.env) = eval e X.env := by rfl) : PE X (.Attribute e fn pos) (tD X.K W (dFld C fn we)) :=
  pe_imp (pe_fld ho hb) fun σ H Q ⟨S, γ, μ, F, Ξ, Φ, hE, hR, hX, hw, hq⟩ => ⟨S, γ, μ, F, Ξ, _, hE, hR, hX, hw, fun S1 H1 v d μ1 l1 r1 a1 ⟨fs, x, h1, h2, q1⟩ => by
    obtain ⟨p, dx, vs, rfl, hp, hk, hl⟩ := ins_d r1 a1 h1
    obtain ⟨u, h3, h4⟩ := look_some hk hl h2
    exact ⟨p, C, dx, vs, u, rfl, hp, cl, na, h3, hq S1 H1 u x μ1 l1 r1 h4 q1⟩⟩
def putD (f : Str) (d : D) : List (Str × D) → List (Str × D)
  | [] => [(f, d)]
  | (n, x) :: r => if n = f then (f, d) :: r else (n, x) :: putD f d r
end
end
end DL

/-! # DL5: stores, displays, built-ins, statements, loops, comprehensions, defs -/
namespace DL
open PySem L2

/-! ### fields -/
theorem putD_names (f : Str) (d : D) (v : V) : ∀ {fs : List (Str × V)} {gs : List (Str × D)}, fs.map (·.1) = gs.map (·.1) → (putF f v fs).map (·.1) = (putD f d gs).map (·.1)
  | [], [], _ => rfl
  | [], _ :: _, h => by simp at h
  | _ :: _, [], h => by simp at h
  | (n, x) :: fs, (n2, y) :: gs, h => by
    simp only [List.map_cons, List.cons.injEq] at h
    obtain ⟨e, h⟩ := h
    subst e
    unfold putF putD
    by_cases z : n = f
    · rw [if_pos z, if_pos z]; simp [h, z]
    · rw [if_neg z, if_neg z]; simp [putD_names f d v h]
theorem putD_vals {K : PySem.W.Frag} {S : Hp} {f : Str} {d : D} {v : V} (a : At K S v d) : ∀ {fs : List (Str × V)} {gs : List (Str × D)}, fs.map (·.1) = gs.map (·.1) → AtL K S (fs.map (·.2)) (gs.map (·.2)) → AtL K S ((putF f v fs).map (·.2)) ((putD f d gs).map (·.2))
  | [], [], _, _ => .cons a .nil
  | [], _ :: _, h, _ => by simp at h
  | _ :: _, [], h, _ => by simp at h
  | (n, x) :: fs, (n2, y) :: gs, h, l => by
    simp only [List.map_cons, List.cons.injEq] at h
    obtain ⟨e, h⟩ := h
    subst e
    unfold putF putD
    by_cases z : n = f
    · rw [if_pos z, if_pos z]; exact .cons a l.tail
    · rw [if_neg z, if_neg z]; exact .cons l.head (putD_vals a h l.tail)
section
variable {X : Cx} {W : WX}
def dSFld (C : Addr) (f : Str) (wo wv : TD) : TDS := fun DD γ μ Ξ => wv γ μ Ξ fun d μ1 => wo γ μ1 Ξ fun o μ2 => ∃ a fs, o = .adr a ∧ μ2 a = some (.ins C fs) ∧ fs.length < 1000 ∧ DD.nx γ (updM μ2 a (.ins C (putD f d fs)))
theorem s_fld {C : Addr} {fn : Str} {o value : Expr} {wo wv : TD} {pos pos' : Pos} (cl : Cls X.K C) (na : NoAttr X.K C fn) (ho : PE X o (tD X.K W wo)) (hv : PE X value (tD X.K W wv)) (hs : swapsWith value (some (.Attribute o fn pos')) pos.line X.env = pure false := by rfl) :
    PS X (.Assign [.Attribute o fn pos'] value pos) (tDS X.K W (dSFld C fn wo wv)) :=
  ps_imp (ps_fld ho hv hs) fun D σ H ⟨S, γ, μ, F, Ξ, DD, hE, hR, hX, hw, hD⟩ => ⟨S, γ, μ, F, Ξ, _, hE, hR, hX, hw, fun S1 H1 v d μ1 l1 r1 a1 q1 => ⟨S1, γ, μ1, F, Ξ, _, hE.mono l1, r1, hX.mono l1, q1, fun S2 H2 ov od μ2 l2 r2 a2 ⟨a, fs, e, h1, h2, q2⟩ => by
    subst e
    obtain ⟨_, ho, hp, hm⟩ := r2.sto a _ h1
    cases ho <;> first
      | exact hm.elim
      | (obtain ⟨rfl, hk, hl⟩ := hm
         have hz := congrArg List.length hk
         simp only [List.length_map] at hz
         exact ⟨a, _, _, _, a2.adr_inv, hp, cl, na, by omega, hD.nx S2 _ σ γ _ (l1.trans l2) (hE.mono (l1.trans l2)) (r2.write (m := .ins _ (putD fn d fs)) h1 ⟨rfl, putD_names fn d v hk, putD_vals (a1.mono l2) hk hl⟩) q2⟩)⟩⟩

/-! ### displays -/
def dTup (t : TDA) : TD := fun γ μ Ξ Φ => t γ μ Ξ fun ds μ1 => ds.length ≤ sizeLine ∧ Φ (.tup ds) μ1
def dLst (t : TDA) : TD := fun γ μ Ξ Φ => t γ μ Ξ fun ds μ1 => ds.length ≤ sizeLine ∧ Φ (.lst ds) μ1
def dLstM (t : TDA) : TD := fun γ μ Ξ Φ => t γ μ Ξ fun ds μ1 => ds.length ≤ sizeLine ∧ ∀ p, μ1 p = none → Φ (.adr p) (updM μ1 p (.lst ds))
section
variable {es : List Expr} {t : TDA} {pos : Pos}
theorem e_tup {x1} (h : PA X es (tDA X.K W t)) : PE X (.Tuple es x1 pos) (tD X.K W (dTup t)) :=
  pe_imp (pe_tup h) fun σ H Q ⟨S, γ, μ, F, Ξ, Φ, hE, hR, hX, hw, hq⟩ => ⟨S, γ, μ, F, Ξ, _, hE, hR, hX, hw, fun S1 H1 vs ds μ1 l1 r1 a1 ⟨hz, q1⟩ => ⟨by rw [a1.1]; exact hz, new_tup r1 a1 q1 fun S2 H2 v d μ2 l2 r2 a2 q2 => hq S2 H2 v d μ2 (l1.trans l2) r2 a2 q2⟩⟩
theorem e_lst (h : PA X es (tDA X.K W t)) : PE X (.List es pos) (tD X.K W (dLst t)) :=
  pe_imp (pe_lst h) fun σ H Q ⟨S, γ, μ, F, Ξ, Φ, hE, hR, hX, hw, hq⟩ => ⟨S, γ, μ, F, Ξ, _, hE, hR, hX, hw, fun S1 H1 vs ds μ1 l1 r1 a1 ⟨hz, q1⟩ => ⟨by rw [a1.1]; exact hz, new_lst r1 a1 q1 fun S2 H2 v d μ2 l2 r2 a2 q2 => hq S2 H2 v d μ2 (l1.trans l2) r2 a2 q2⟩⟩
theorem e_lstM (h : PA X es (tDA X.K W t)) : PE X (.List es pos) (tD X.K W (dLstM t)) :=
  pe_imp (pe_lst h) fun σ H Q ⟨S, γ, μ, F, Ξ, Φ, hE, hR, hX, hw, hq⟩ => ⟨S, γ, μ, F, Ξ, _, hE, hR, hX, hw, fun S1 H1 vs ds μ1 l1 r1 a1 ⟨hz, q1⟩ => ⟨by rw [a1.1]; exact hz, new_lstM r1 a1 q1 fun S2 H2 v d μ2 l2 r2 a2 q2 => hq S2 H2 v d μ2 (l1.trans l2) r2 a2 q2⟩⟩
end
/-! ### what changes no more; steps of the reading alone -/
/-- objects that are locked from here on -/
inductive FzI (Q : Hp → Prop) : Hp → Prop
  | now {H : Hp} (h : Q H) : FzI Q H
  | lock {H : Hp} {d : Addr} {u : HO} (h : H d = some u) (mu : Mut (some u)) (k : ∀ od, FzI Q (upd H d (.frz od u))) : FzI Q H
abbrev Fz (H : Hp) (Q : Hp → Prop) : Prop := FzI Q H
theorem Fz.now {H : Hp} {Q : Hp → Prop} (h : Q H) : Fz H Q := FzI.now h
theorem Fz.lock {H : Hp} {Q : Hp → Prop} {d : Addr} {u : HO} (h : H d = some u) (mu : Mut (some u)) (k : ∀ od, Fz (upd H d (.frz od u)) Q) : Fz H Q := FzI.lock h mu k
theorem Fz.join {H : Hp} {Q : Hp → Prop} (h : Fz H fun H' => Fz H' Q) : Fz H Q := by
  induction h with
  | now h => exact h
  | lock h mu k ih => exact .lock h mu ih
theorem Fz.go {X : Cx} {pins : List (Addr × Obj)} {σ : L2.St} {s : Shared} {H : Hp} {Q : Hp → Prop} (h : Fz H Q) : Inv X pins σ H s → ∃ H', Inv X pins σ H' s ∧ Q H' := by
  induction h with
  | now h => exact fun I => ⟨_, I, h⟩
  | lock h mu k ih => exact fun I => let ⟨od, I1⟩ := I.lock h mu; ih od I1
theorem Fz.imp {H : Hp} {Q Q' : Hp → Prop} (h : Fz H Q) (i : ∀ H, Q H → Q' H) : Fz H Q' := by
  induction h with
  | now h => exact .now (i _ h)
  | lock h mu k ih => exact .lock h mu ih
theorem pe_fz {X : Cx} {e : Expr} {t : TE} (h : PE X e t) : PE X e (fun σ H Q => t σ H fun v H1 => Fz H1 (Q v)) :=
  ⟨fun pins s σ H Q I hw => thn (h.run pins s σ H _ I hw) fun u s1 ⟨x, H1, I1, r, q⟩ => let ⟨H2, I2, q2⟩ := q.go I1; ⟨x, H2, I2, r, q2⟩⟩
theorem ps_fz {X : Cx} {st : Stmt} {t : TS} (h : PS X st t) : PS X st (fun D σ H => t ⟨fun σ' H' => Fz H' (D.nx σ'), fun v H' => Fz H' (D.rt v), fun σ' H' => Fz H' (D.bk σ'), fun σ' H' => Fz H' (D.ct σ')⟩ σ H) := by
  refine ⟨fun pins s σ H D I hw => thn (h.run pins s σ H _ I hw) fun f s1 q => ?_⟩
  cases f with
  | next => obtain ⟨σ', H', I2, q⟩ := q; obtain ⟨H2, I3, q2⟩ := q.go I2; exact ⟨σ', H2, I3, q2⟩
  | brk => obtain ⟨σ', H', I2, q⟩ := q; obtain ⟨H2, I3, q2⟩ := q.go I2; exact ⟨σ', H2, I3, q2⟩
  | cont => obtain ⟨σ', H', I2, q⟩ := q; obtain ⟨H2, I3, q2⟩ := q.go I2; exact ⟨σ', H2, I3, q2⟩
  | ret v => obtain ⟨x, σ', H', I2, r, q⟩ := q; obtain ⟨H2, I3, q2⟩ := q.go I2; exact ⟨x, σ', H2, I3, r, q2⟩
theorem ps_fz0 {X : Cx} {st : Stmt} {t : TS} (h : PS X st t) : PS X st (fun D σ H => Fz H (t D σ)) :=
  ⟨fun pins s σ H D I hw => let ⟨H2, I2, q2⟩ := hw.go I; h.run pins s σ H2 D I2 q2⟩
/-- what was made may be read as what never changes: a list, a dict, an instance of the store, by its value -/
def frzM : Option MO → Option D
  | some (.lst xs) => some (.lst xs)
  | some (.ins C fs) => some (.ins C fs)
  | some (.dK kvs) => some (.dK kvs)
  | some (.dT kvs) => some (.dT kvs)
  | some (.lK _ _ _) => none
  | some (.lT _ _ _) => none
  | none => none
theorem freeze_at {K : PySem.W.Frag} {S H : Hp} {μ F : Mu} {a : Addr} {d : D} {Q : Hp → Prop} (r : R K S H μ F) (h : frzM (μ a) = some d) (k : ∀ S' H', Le S S' → R K S' H' (delM μ a) F → At K S' (.ref a) d → Q H') : Fz H Q := by
  cases e : μ a with
  | none => rw [e] at h; cases h
  | some m =>
    rw [e] at h
    obtain ⟨hs, o, ho, hm⟩ := r.sto a m e
    have hf : F a = none := by
      cases z : F a with
      | none => rfl
      | some u => have q := (r.frm a u z).1; rw [e] at q; cases q
    have l : ∀ {u : HO}, Le S (upd S a u) := Le.new hs
    cases m with
    | lst xs => cases h; obtain ⟨vs, rfl, hm⟩ := hm.lst_inv; exact .now (k _ _ l (r.freeze ho hs hf) (atL_lst upd_same (hm.mono l)))
    | dK kvs => cases h; obtain ⟨vs, rfl, h1, h2⟩ := hm.dK_inv; exact .lock ho True.intro fun od => .now (k _ _ l (r.freezeD (ob := od) ho hs hf) (.dK upd_same h1 (h2.mono l).2))
    | dT kvs => cases h; obtain ⟨vs, rfl, h1, h2⟩ := hm.dT_inv; exact .lock ho True.intro fun od => .now (k _ _ l (r.freezeD (ob := od) ho hs hf) (.dT upd_same h1 (h2.mono l).2))
    | lK ob vs kvs => cases h
    | lT ob vs kvs => cases h
    | ins C fs => cases h; obtain ⟨dx, vs, rfl, h1, h2⟩ := hm.ins_inv; exact .now (k _ _ l (r.freeze ho hs hf) (.ins upd_same h1 (h2.mono l).2))
/-- an expression whose value is an object of the store that from here on changes no more -/
def dFrz (w : TD) : TD := fun γ μ Ξ Φ => w γ μ Ξ fun d μ1 => ∃ a x, d = .adr a ∧ frzM (μ1 a) = some x ∧ Φ x (delM μ1 a)
theorem e_frz {X : Cx} {W : WX} {e : Expr} {w : TD} (h : PE X e (tD X.K W w)) : PE X e (tD X.K W (dFrz w)) :=
  pe_imp (pe_fz h) fun σ H Q ⟨S, γ, μ, F, Ξ, Φ, hE, hR, hX, hw, hq⟩ => ⟨S, γ, μ, F, Ξ, _, hE, hR, hX, hw, fun S1 H1 v d μ1 l1 r1 a1 ⟨a, x, e1, h1, q1⟩ => by
    subst e1
    rw [a1.adr_inv]
    exact freeze_at r1 h1 fun S2 H2 l2 r2 a2 => hq S2 H2 _ x _ (l1.trans l2) r2 a2 q1⟩
/-- every reading by the first is one by the second, once the objects of l are read by their values -/
def Kn (l : List (Addr × D)) (K : PySem.W.Frag) (S : Hp) : Prop := ∀ p ∈ l, At K S (.ref p.1) p.2
def SubD (l : List (Addr × D)) (x y : D) : Prop := ∀ (K : PySem.W.Frag) (S : Hp) (v : V), Kn l K S → At K S v x → At K S v y
def SubL (l : List (Addr × D)) (xs ys : List D) : Prop := ys.length = xs.length ∧ ∀ (i : Nat) x y, xs[i]? = some x → ys[i]? = some y → SubD l x y
def SubM (l : List (Addr × D)) (m m' : MO) : Prop := ∀ (K : PySem.W.Frag) (S : Hp) (o : HO), Kn l K S → MAt K S o m → MAt K S o m'
def SubMu (l : List (Addr × D)) (μ μ' : Mu) : Prop := ∀ b m', μ' b = some m' → ∃ m, μ b = some m ∧ SubM l m m'
def SubG (l : List (Addr × D)) (γ γ' : Ga) : Prop := γ'.length = γ.length ∧ ∀ (i : Nat) x, γ'[i]? = some (some x) → ∃ y, γ[i]? = some (some y) ∧ SubD l y x
def delMs (μ : Mu) (l : List (Addr × D)) : Mu := fun b => if b ∈ l.map (·.1) then none else μ b
section
variable {l : List (Addr × D)}
theorem SubD.refl {x : D} : SubD l x x := fun _ _ _ _ a => a
theorem SubD.here {a : Addr} {d : D} (h : (a, d) ∈ l) : SubD l (.adr a) d := fun K S v k t => by rw [t.adr_inv]; exact k _ h
theorem SubL.at {K : PySem.W.Frag} {S : Hp} {xs ys : List D} {vs : List V} (h : SubL l xs ys) (k : Kn l K S) (t : AtL K S vs xs) : AtL K S vs ys := by
  refine ⟨t.1.trans h.1.symm, fun i v y hv hy => ?_⟩
  have hi : i < xs.length := by rw [← h.1]; exact (List.getElem?_eq_some_iff.mp hy).1
  have hx : xs[i]? = some xs[i] := List.getElem?_eq_getElem hi
  exact h.2 i _ y hx hy K S v k (t.2 i v _ hv hx)
theorem SubL.refl {xs : List D} : SubL l xs xs := ⟨rfl, fun i x y h1 h2 => by rw [h1] at h2; cases h2; exact SubD.refl⟩
theorem SubL.nil : SubL l [] [] := SubL.refl
theorem SubL.cons {x y : D} {xs ys : List D} (h : SubD l x y) (t : SubL l xs ys) : SubL l (x :: xs) (y :: ys) := ⟨by simp [t.1], fun i a b h1 h2 => by
  cases i with
  | zero => simp at h1 h2; subst h1; subst h2; exact h
  | succ i => simp at h1 h2; exact t.2 i a b h1 h2⟩
theorem SubL.map {α : Type} {f g : α → D} : ∀ {xs : List α}, (∀ x ∈ xs, SubD l (f x) (g x)) → SubL l (xs.map f) (xs.map g)
  | [], _ => SubL.nil
  | x :: xs, h => .cons (h x List.mem_cons_self) (SubL.map fun y hy => h y (List.mem_cons_of_mem _ hy))
theorem SubD.lst {xs ys : List D} (h : SubL l xs ys) : SubD l (.lst xs) (.lst ys) := fun K S v k t => by
  cases t with
  | lst hs hl hi => exact .lst hs (h.at k ⟨hl, hi⟩).1 (h.at k ⟨hl, hi⟩).2
theorem SubD.tup {xs ys : List D} (h : SubL l xs ys) : SubD l (.tup xs) (.tup ys) := fun K S v k t => by
  cases t with
  | tup hs hl hi => exact .tup hs (h.at k ⟨hl, hi⟩).1 (h.at k ⟨hl, hi⟩).2
theorem SubM.refl {m : MO} : SubM l m m := fun _ _ _ _ t => t
theorem SubM.lst {xs ys : List D} (h : SubL l xs ys) : SubM l (.lst xs) (.lst ys) := fun K S o k t => by
  obtain ⟨vs, rfl, t⟩ := t.lst_inv
  exact h.at k t
theorem SubM.dK {es fs : List (Key × D)} (h1 : fs.map (·.1) = es.map (·.1)) (h : SubL l (es.map (·.2)) (fs.map (·.2))) : SubM l (.dK es) (.dK fs) := fun K S o k t => by
  obtain ⟨vs, rfl, t1, t2⟩ := t.dK_inv
  exact ⟨t1.trans h1.symm, h.at k t2⟩
theorem SubM.dT {es fs : List (List Key × D)} (h1 : fs.map (·.1) = es.map (·.1)) (h : SubL l (es.map (·.2)) (fs.map (·.2))) : SubM l (.dT es) (.dT fs) := fun K S o k t => by
  obtain ⟨vs, rfl, t1, t2⟩ := t.dT_inv
  exact ⟨t1.trans h1.symm, h.at k t2⟩
theorem SubM.ins {C : Addr} {es fs : List (Str × D)} (h1 : fs.map (·.1) = es.map (·.1)) (h : SubL l (es.map (·.2)) (fs.map (·.2))) : SubM l (.ins C es) (.ins C fs) := fun K S o k t => by
  obtain ⟨dx, vs, rfl, t1, t2⟩ := t.ins_inv
  exact ⟨rfl, t1.trans h1.symm, h.at k t2⟩
theorem SubMu.refl {μ : Mu} : SubMu l μ μ := fun b m h => ⟨m, h, SubM.refl⟩
theorem SubMu.upd {μ : Mu} {b : Addr} {m m' : MO} (hb : μ b = some m) (h : SubM l m m') : SubMu l μ (updM μ b m') := fun c u hu => by
  by_cases hc : c = b
  · subst hc; rw [updM_same] at hu; cases hu; exact ⟨m, hb, h⟩
  · rw [updM_ne hc] at hu; exact ⟨u, hu, SubM.refl⟩
theorem SubG.refl {γ : Ga} : SubG l γ γ := ⟨rfl, fun i x h => ⟨x, h, SubD.refl⟩⟩
theorem SubG.set {γ : Ga} {i : Nat} {x y : D} (hi : γ[i]? = some (some x)) (h : SubD l x y) : SubG l γ (γ.set i (some y)) := ⟨by simp, fun j z hz => by
  rw [List.getElem?_set] at hz
  by_cases hj : i = j
  · subst hj
    rw [if_pos rfl] at hz
    split at hz
    · cases hz; exact ⟨x, hi, h⟩
    · cases hz
  · rw [if_neg hj] at hz; exact ⟨z, hz, SubD.refl⟩⟩
end
/-- steps of the reading alone: objects change no more and are read by their values; the store forgets -/
inductive Gh : Ga → Mu → (Ga → Mu → Prop) → Prop
  | done {γ : Ga} {μ : Mu} {k : Ga → Mu → Prop} (h : k γ μ) : Gh γ μ k
  | frz {γ : Ga} {μ : Mu} {k : Ga → Mu → Prop} (l : List (Addr × D)) (γ' : Ga) (μ' : Mu) (nd : (l.map (·.1)).Nodup) (h : ∀ p ∈ l, frzM (μ p.1) = some p.2) (hg : SubG l γ γ') (hm : SubMu l (delMs μ l) μ') (q : Gh γ' μ' k) : Gh γ μ k
  | fgt {γ : Ga} {μ : Mu} {k : Ga → Mu → Prop} (μ' : Mu) (h : ∀ a m, μ' a = some m → μ a = some m) (q : Gh γ μ' k) : Gh γ μ k
theorem SubG.at {K : PySem.W.Frag} {S : Hp} {l : List (Addr × D)} {γ γ' : Ga} {σ : L2.St} (h : SubG l γ γ') (k : Kn l K S) (t : Env K S σ γ) : Env K S σ γ' := by
  refine ⟨t.1.trans h.1.symm, fun i x hx => ?_⟩
  obtain ⟨y, hy, s⟩ := h.2 i x hx
  obtain ⟨v, hv, av⟩ := t.2 i y hy
  exact ⟨v, hv, s K S v k av⟩
theorem SubMu.at {K : PySem.W.Frag} {S H : Hp} {l : List (Addr × D)} {μ μ' F : Mu} (h : SubMu l μ μ') (k : Kn l K S) (r : R K S H μ F) : R K S H μ' F := by
  refine ⟨r.imm, fun b m' e => ?_, fun b m e => ⟨?_, (r.frm b m e).2⟩⟩
  · obtain ⟨m, hm, s⟩ := h b m' e
    obtain ⟨h1, o, ho, t⟩ := r.sto b m hm
    exact ⟨h1, o, ho, s K S o k t⟩
  · cases z : μ' b with
    | none => rfl
    | some m' =>
      obtain ⟨m2, hm, _⟩ := h b m' z
      have q := (r.frm b m e).1
      rw [hm] at q
      cases q
theorem freeze_all {K : PySem.W.Frag} {F : Mu} {Q : Hp → Prop} : ∀ {l : List (Addr × D)} {S H : Hp} {μ : Mu}, R K S H μ F → (l.map (·.1)).Nodup → (∀ p ∈ l, frzM (μ p.1) = some p.2) → (∀ S' H', Le S S' → R K S' H' (delMs μ l) F → Kn l K S' → Q H') → Fz H Q
  | [], S, H, μ, r, _, _, k => by
    have e : delMs μ [] = μ := by funext b; unfold delMs; simp
    exact .now (k S H (Le.refl S) (by rw [e]; exact r) fun p hp => by simp at hp)
  | p :: l, S, H, μ, r, nd, h, k => by
    rw [List.map_cons, List.nodup_cons] at nd
    refine Fz.join (freeze_at (Q := fun H' => Fz H' Q) r (h p List.mem_cons_self) fun S' H' l1 r1 ap => ?_)
    refine freeze_all (l := l) r1 nd.2 (fun q hq => ?_) fun S2 H2 l2 r2 kn => k S2 H2 (l1.trans l2) ?_ fun q hq => ?_
    · have ne : q.1 ≠ p.1 := fun e => nd.1 (by rw [← e]; exact List.mem_map_of_mem hq)
      unfold delM
      rw [if_neg ne]; exact h q (List.mem_cons_of_mem _ hq)
    · have e : delMs (delM μ p.1) l = delMs μ (p :: l) := by
        funext b
        unfold delMs delM
        rw [List.map_cons]
        by_cases h1 : b ∈ l.map (·.1)
        · rw [if_pos h1, if_pos (List.mem_cons_of_mem _ h1)]
        · rw [if_neg h1]
          by_cases h2 : b = p.1
          · rw [if_pos h2, if_pos (by rw [h2]; exact List.mem_cons_self)]
          · rw [if_neg h2, if_neg (fun z => (List.mem_cons.mp z).elim h2 h1)]
      rw [e] at r2
      exact r2
    · rcases List.mem_cons.mp hq with e | hq
      · rw [e]; exact ap.mono l2
      · exact kn q hq
theorem gh_at {K : PySem.W.Frag} {F : Mu} {γ : Ga} {μ : Mu} {k : Ga → Mu → Prop} (g : Gh γ μ k) : ∀ {S H : Hp} {σ : L2.St} {Q : Hp → Prop}, Env K S σ γ → R K S H μ F → (∀ S' H' γ' μ', Le S S' → Env K S' σ γ' → R K S' H' μ' F → k γ' μ' → Q H') → Fz H Q := by
  induction g with
  | done h => exact fun hE hR hk => .now (hk _ _ _ _ (Le.refl _) hE hR h)
  | frz l γ' μ' nd h hg hm q ih =>
    intro S H σ Q hE hR hk
    exact Fz.join (freeze_all (Q := fun H' => Fz H' Q) hR nd h fun S' H' l r kn => ih (hg.at kn (hE.mono l)) (hm.at kn r) fun S2 H2 γ2 μ2 l2 => hk S2 H2 γ2 μ2 (l.trans l2))
  | fgt μ' h q ih => exact fun hE hR hk => ih hE (hR.forget h) hk
/-- .. behind a statement -/
def dGh (w : TDS) : TDS := fun DD γ μ Ξ => w ⟨fun γ' μ' => Gh γ' μ' DD.nx, DD.rt, DD.bk, DD.ct⟩ γ μ Ξ
theorem s_gh {X : Cx} {W : WX} {st : Stmt} {w : TDS} (h : PS X st (tDS X.K W w)) : PS X st (tDS X.K W (dGh w)) :=
  ps_imp (ps_fz h) fun D σ H ⟨S, γ, μ, F, Ξ, DD, hE, hR, hX, hw, hD⟩ => ⟨S, γ, μ, F, Ξ, _, hE, hR, hX, hw,
    ⟨fun S' H' σ' γ' μ' l e r q => gh_at q e r fun S2 H2 γ2 μ2 l2 e2 r2 q2 => hD.nx S2 H2 σ' γ2 μ2 (l.trans l2) e2 r2 q2, fun S' H' v d μ' l r a q => .now (hD.rt S' H' v d μ' l r a q), fun S' H' σ' γ' μ' l e r q => .now (hD.bk S' H' σ' γ' μ' l e r q), fun S' H' σ' γ' μ' l e r q => .now (hD.ct S' H' σ' γ' μ' l e r q)⟩⟩
/-- .. behind an expression: the store forgets -/
def dFgt (w : TD) : TD := fun γ μ Ξ Φ => w γ μ Ξ fun d μ1 => ∃ μ2 : Mu, (∀ a m, μ2 a = some m → μ1 a = some m) ∧ Φ d μ2
theorem e_fgt {X : Cx} {W : WX} {e : Expr} {w : TD} (h : PE X e (tD X.K W w)) : PE X e (tD X.K W (dFgt w)) :=
  pe_imp h fun σ H Q ⟨S, γ, μ, F, Ξ, Φ, hE, hR, hX, hw, hq⟩ => ⟨S, γ, μ, F, Ξ, _, hE, hR, hX, hw, fun S1 H1 v d μ1 l1 r1 a1 ⟨μ2, h1, q1⟩ => hq S1 H1 v d μ2 l1 (r1.forget h1) a1 q1⟩

section
variable {X : Cx} {W : WX} {pos : Pos}
/-! ### subscripts -/
def oIx : OD := fun x y μ Φ => match x, y with
  | .str z, .int i => ∃ c, z.length ≤ sizeLine ∧ atI z.cps.toList i = some c ∧ Φ (.str ⟨#[c]⟩) μ
  | x, .int i => ∃ ds d, itemsD μ x = some ds ∧ atI ds i = some d ∧ Φ d μ
  | _, _ => False
theorem atI_at {K : PySem.W.Frag} {S : Hp} {vs : List V} {ds : List D} {i : Int} {d : D} (a : AtL K S vs ds) (h : atI ds i = some d) : ∃ v, atI vs i = some v ∧ At K S v d := by
  unfold atI at h ⊢
  rw [a.1]
  cases e : ixN ds.length i with
  | none => rw [e] at h; cases h
  | some j => rw [e] at h; exact a.get h
theorem od_ix {K : PySem.W.Frag} : OpD K (rIx K) oIx := by
  intro S H μ F x y d e Φ Q r ax ay hw k
  have fin : ∀ i, e = .int i → (∃ ds d', itemsD μ d = some ds ∧ atI ds i = some d' ∧ Φ d' μ) → rIx K x y H Q := by
    rintro i rfl ⟨ds, d', h1, h2, q⟩
    obtain ⟨p, vs, rfl, hs, hl⟩ := items_at r ax h1
    obtain ⟨v, h3, h4⟩ := atI_at hl h2
    rcases hs with hs | hs
    · exact .inl ⟨p, vs, i, v, rfl, ay.int_inv, hs, h3, k S H v d' μ (Le.refl S) r h4 q⟩
    · exact .inr (.inl ⟨p, vs, i, v, rfl, ay.int_inv, hs, h3, k S H v d' μ (Le.refl S) r h4 q⟩)
  cases e with
  | int i =>
    cases d with
    | str z => obtain ⟨c, h1, h2, q⟩ := hw; exact .inr (.inr ⟨z, i, c, ax.str_inv, ay.int_inv, h1, h2, k S H _ _ μ (Le.refl S) r (.str _) q⟩)
    | _ => exact fin i rfl hw
  | _ => cases d <;> exact hw.elim
theorem e_ix {a b : Expr} {wa wb : TD} {pos : Pos} (ha : PE X a (tD X.K W wa)) (hb : PE X b (tD X.K W wb)) (hs : PlainIx b := by exact fun _ _ => rfl) : PE X (.Subscript a b pos) (tD X.K W (dOp oIx wa wb)) :=
  pe_imp (pe_ix ix_seq ha hb hs) fun _ _ _ h => op_go od_ix h
/-- slices of lists -/
abbrev TDO := Ga → Mu → XD → (Option Int → Mu → Prop) → Prop
def tDO (K : PySem.W.Frag) (W : WX) (w : TDO) : TO := fun σ H Q => ∃ S γ μ F Ξ Φ, Env K S σ γ ∧ R K S H μ F ∧ XOk K S F W Ξ ∧ w γ μ Ξ Φ ∧ ∀ S' H' o μ', Le S S' → R K S' H' μ' F → Φ o μ' → Q o H'
def dNoPart : TDO := fun _ μ _ Φ => Φ none μ
def dPart (w : TD) : TDO := fun γ μ Ξ Φ => w γ μ Ξ fun d μ1 => ∃ i, d = .int i ∧ Φ (some i) μ1
theorem po_imp {e : Option Expr} {t t' : TO} (h : PO X e t) (i : ∀ σ H Q, t' σ H Q → t σ H Q) : PO X e t' := ⟨fun p s σ H Q I q => h.run p s σ H Q I (i σ H Q q)⟩
theorem o_none : PO X none (tDO X.K W dNoPart) := po_imp po_none fun σ H Q ⟨S, γ, μ, F, Ξ, Φ, hE, hR, hX, hw, hq⟩ => hq S H none μ (Le.refl S) hR hw
theorem o_some {e : Expr} {w : TD} (h : PE X e (tD X.K W w)) : PO X (some e) (tDO X.K W (dPart w)) :=
  po_imp (po_some h) fun σ H Q ⟨S, γ, μ, F, Ξ, Φ, hE, hR, hX, hw, hq⟩ => ⟨S, γ, μ, F, Ξ, _, hE, hR, hX, hw, fun S1 H1 v d μ1 l1 r1 a1 ⟨i, e, q1⟩ => ⟨i, by subst e; exact a1.int_inv, hq S1 H1 _ μ1 l1 r1 q1⟩⟩
def cutD (ds : List D) (lo hi : Option Int) : List D := (ds.drop (HT.sIx ds.length 0 lo)).take (HT.sIx ds.length ds.length hi - HT.sIx ds.length 0 lo)
theorem cut_at {K : PySem.W.Frag} {S : Hp} {vs : List V} {ds : List D} (a : AtL K S vs ds) (lo hi : Option Int) : AtL K S (cutV vs lo hi) (cutD ds lo hi) := by
  unfold cutV cutD
  rw [a.1]
  exact a.cut _ _
def dSl (w : TD) (wl wh : TDO) : TD := fun γ μ Ξ Φ => w γ μ Ξ fun d μ1 => wl γ μ1 Ξ fun lo μ2 => wh γ μ2 Ξ fun hi μ3 => ∃ ds, lisD μ3 d = some ds ∧ Φ (.lst (cutD ds lo hi)) μ3
theorem e_sl {e : Expr} {w : TD} {lo hi : Option Expr} {wl wh : TDO} {p2 pos : Pos} (he : PE X e (tD X.K W w)) (hl : PO X lo (tDO X.K W wl)) (hh : PO X hi (tDO X.K W wh)) : PE X (.Subscript e (.Slice lo hi none p2) pos) (tD X.K W (dSl w wl wh)) :=
  pe_imp (pe_slice sl_list he hl hh) fun σ H Q ⟨S, γ, μ, F, Ξ, Φ, hE, hR, hX, hw, hq⟩ => ⟨S, γ, μ, F, Ξ, _, hE, hR, hX, hw, fun S1 H1 v d μ1 l1 r1 a1 q1 => ⟨S1, γ, μ1, F, Ξ, _, hE.mono l1, r1, hX.mono l1, q1, fun S2 H2 o μ2 l2 r2 q2 => ⟨S2, γ, μ2, F, Ξ, _, hE.mono (l1.trans l2), r2, hX.mono (l1.trans l2), q2, fun S3 H3 o2 μ3 l3 r3 ⟨ds, h1, q3⟩ => by
    obtain ⟨p, vs, rfl, hs, hl⟩ := lis_at r3 ((a1.mono l2).mono l3) h1
    exact ⟨p, vs, rfl, hs, new_lst r3 (cut_at hl o o2) q3 fun S4 H4 v d μ4 l4 r4 a4 q4 => hq S4 H4 v d μ4 (l1.trans (l2.trans (l3.trans l4))) r4 a4 q4⟩⟩⟩⟩
/-- slices of tuples, not the whole of one -/
def dSlT (w : TD) (wl wh : TDO) : TD := fun γ μ Ξ Φ => w γ μ Ξ fun d μ1 => wl γ μ1 Ξ fun lo μ2 => wh γ μ2 Ξ fun hi μ3 => ∃ ds, tupD d = some ds ∧ (cutD ds lo hi).length ≠ ds.length ∧ Φ (.tup (cutD ds lo hi)) μ3

/-! ### built-ins -/
abbrev BF := List D → Mu → KD → Prop
def BiD (K : PySem.W.Frag) (r : List V → Hp → VK → Prop) (w : BF) : Prop := ∀ (S H : Hp) (μ F : Mu) (vs : List V) (ds : List D) (Φ : KD) (Q : VK), R K S H μ F → AtL K S vs ds → w ds μ Φ →
  (∀ S' H' v d' μ', Le S S' → R K S' H' μ' F → At K S' v d' → Φ d' μ' → Q v H') → r vs H Q
def dBi (w : BF) (t : TDA) : TD := fun γ μ Ξ Φ => t γ μ Ξ fun ds μ1 => w ds μ1 Φ
theorem bi_go {r : List V → Hp → VK → Prop} {w : BF} {t : TDA} (hw : BiD X.K r w) {σ : L2.St} {H : Hp} {Q : VK} (h : tD X.K W (dBi w t) σ H Q) : tCB r (tDA X.K W t) σ H Q := by
  obtain ⟨S, γ, μ, F, Ξ, Φ, hE, hR, hX, hw', hq⟩ := h
  exact ⟨S, γ, μ, F, Ξ, _, hE, hR, hX, hw', fun S1 H1 vs ds μ1 l1 r1 a1 q1 => hw S1 H1 μ1 F vs ds _ _ r1 a1 q1 fun S2 H2 v d μ2 l2 r2 a2 q2 => hq S2 H2 v d μ2 (l1.trans l2) r2 a2 q2⟩
section
variable {r : List V → Hp → VK → Prop} {w : BF} {t : TDA} {id T : String} {x : Str} {e : Expr} {es : List Expr} {p pos : Pos}
theorem e_bi (hc : CallR X (.builtin id) r) (hw : BiD X.K r w) (hm : X.mg x = none) (ha : PA X (e :: es) (tDA X.K W t)) (hv : bootBuiltins x = some (.builtin id) := by decide +kernel) (hg : Gl X x := by rfl) (hn : x ≠ "__name__" := by decide) (hdb : (x == ("__debug__" : Str)) = false := by decide)
    (he : starEach (e :: es) X.env = (false, eval e X.env) :: starEach es X.env := by rfl) (hpl : (backTo pos (starEach es X.env)).any (·.1) = false := by rfl) : PE X (.Call (.Name x p) (e :: es) [] pos) (tD X.K W (dBi w t)) :=
  pe_imp (pe_callB hc hg hm hv ha hn hdb he hpl) fun _ _ _ h => bi_go hw h
theorem e_bt (hc : CallR X (.type T) r) (hw : BiD X.K r w) (hm : X.mg x = none) (ha : PA X (e :: es) (tDA X.K W t)) (hv : bootBuiltins x = some (.type T) := by decide +kernel) (hg : Gl X x := by rfl) (hn : x ≠ "__name__" := by decide) (hdb : (x == ("__debug__" : Str)) = false := by decide)
    (he : starEach (e :: es) X.env = (false, eval e X.env) :: starEach es X.env := by rfl) (hpl : (backTo pos (starEach es X.env)).any (·.1) = false := by rfl) : PE X (.Call (.Name x p) (e :: es) [] pos) (tD X.K W (dBi w t)) :=
  pe_imp (pe_callTy hc hg hm hv ha hn hdb he hpl) fun _ _ _ h => bi_go hw h
end
theorem atL1 {K : PySem.W.Frag} {S : Hp} {vs : List V} {d : D} (a : AtL K S vs [d]) : ∃ v, vs = [v] ∧ At K S v d := by
  cases vs with
  | nil => have := a.1; simp at this
  | cons v vs =>
    cases vs with
    | nil => exact ⟨v, rfl, a.head⟩
    | cons u us => have := a.1; simp at this
theorem atL2 {K : PySem.W.Frag} {S : Hp} {vs : List V} {d e : D} (a : AtL K S vs [d, e]) : ∃ v w, vs = [v, w] ∧ At K S v d ∧ At K S w e := by
  cases vs with
  | nil => have := a.1; simp at this
  | cons v vs =>
    obtain ⟨w, rfl, h⟩ := atL1 a.tail
    exact ⟨v, w, rfl, a.head, h⟩
/-- len -/
def lenD (μ : Mu) : D → Option Nat
  | .str x => if x.length ≤ sizeLine then some x.length else none
  | d => (itemsD μ d).map List.length
def bLen : BF := fun ds μ Φ => ∃ d n, ds = [d] ∧ lenD μ d = some n ∧ Φ (.int n) μ
def rLenA (K : PySem.W.Frag) : List V → Hp → VK → Prop := fun xs H Q => ∃ x n, xs = [x] ∧ LenV K x H n ∧ Q (.int n) H
theorem bd_len {K : PySem.W.Frag} : BiD K (rLenA K) bLen := by
  rintro S H μ F vs ds Φ Q r a ⟨d, n, rfl, h, q⟩ k
  obtain ⟨v, rfl, av⟩ := atL1 a
  refine ⟨v, n, rfl, ?_, k S H _ _ μ (Le.refl S) r (.int _) q⟩
  have fin : (itemsD μ d).map List.length = some n → LenV K v H n := fun h => by
    cases e : itemsD μ d with
    | none => rw [e] at h; cases h
    | some xs =>
      rw [e] at h; cases h
      obtain ⟨p, us, rfl, hs, hl⟩ := items_at r av e
      rcases hs with hs | hs
      · exact .inl ⟨us, hs, hl.1.symm⟩
      · exact .inr ⟨us, hs, hl.1.symm⟩
  cases d with
  | str x =>
    rw [av.str_inv]
    have h : (if x.length ≤ sizeLine then some x.length else none) = some n := h
    by_cases z : x.length ≤ sizeLine
    · rw [if_pos z] at h; cases h; exact ⟨z, rfl⟩
    · rw [if_neg z] at h; cases h
  | _ => exact fin h
/-- int(n), int(flag) -/
def bInt : BF := fun ds μ Φ => (∃ i, ds = [.int i] ∧ Φ (.int i) μ) ∨ ∃ b, ds = [.bl b] ∧ Φ (.int (if b then 1 else 0)) μ
theorem bd_int {K : PySem.W.Frag} : BiD K (fun xs H Q => (∃ i, xs = [V.int i] ∧ Q (.int i) H) ∨ ∃ k, xs = [V.bl k] ∧ Q (.int (if k then 1 else 0)) H) bInt := by
  rintro S H μ F vs ds Φ Q r a (⟨i, rfl, q⟩ | ⟨b, rfl, q⟩) k
  · obtain ⟨v, rfl, av⟩ := atL1 a
    exact .inl ⟨i, by rw [av.int_inv], k S H _ _ μ (Le.refl S) r (.int _) q⟩
  · obtain ⟨v, rfl, av⟩ := atL1 a
    exact .inr ⟨b, by rw [av.bl_inv], k S H _ _ μ (Le.refl S) r (.int _) q⟩
/-- str(text) -/
def bStr : BF := fun ds μ Φ => ∃ x, ds = [.str x] ∧ Φ (.str x) μ
theorem bd_str {K : PySem.W.Frag} : BiD K (fun xs H Q => ∃ a, xs = [V.str a] ∧ Q (.str a) H) bStr := by
  rintro S H μ F vs ds Φ Q r a ⟨x, rfl, q⟩ k
  obtain ⟨v, rfl, av⟩ := atL1 a
  exact ⟨x, by rw [av.str_inv], k S H _ _ μ (Le.refl S) r (.str _) q⟩
/-- list(xs), list(t): a new list -/
def bList : BF := fun ds μ Φ => ∃ d xs, ds = [d] ∧ itemsD μ d = some xs ∧ Φ (.lst xs) μ
def bListM : BF := fun ds μ Φ => ∃ d xs, ds = [d] ∧ itemsD μ d = some xs ∧ ∀ p, μ p = none → Φ (.adr p) (updM μ p (.lst xs))
def rListA (K : PySem.W.Frag) : List V → Hp → VK → Prop := fun xs H Q => ∃ p ys, xs = [V.ref p] ∧ (SqL K H p ys ∨ SqT K H p ys) ∧ ∀ l, H l = none → Q (.ref l) (upd H l (.lst ys))
theorem bd_list {K : PySem.W.Frag} : BiD K (rListA K) bList := by
  rintro S H μ F vs ds Φ Q r a ⟨d, xs, rfl, h, q⟩ k
  obtain ⟨v, rfl, av⟩ := atL1 a
  obtain ⟨p, us, rfl, hs, hl⟩ := items_at r av h
  exact ⟨p, us, rfl, hs, new_lst r hl q k⟩
theorem bd_listM {K : PySem.W.Frag} : BiD K (rListA K) bListM := by
  rintro S H μ F vs ds Φ Q r a ⟨d, xs, rfl, h, q⟩ k
  obtain ⟨v, rfl, av⟩ := atL1 a
  obtain ⟨p, us, rfl, hs, hl⟩ := items_at r av h
  exact ⟨p, us, rfl, hs, new_lstM r hl q k⟩
/-- tuple(xs): a new tuple; tuple(t): t itself -/
def bTuple : BF := fun ds μ Φ => ∃ d xs, ds = [d] ∧ lisD μ d = some xs ∧ Φ (.tup xs) μ
def rTupA (K : PySem.W.Frag) : List V → Hp → VK → Prop := fun xs H Q => ∃ p ys, xs = [V.ref p] ∧ ((SqL K H p ys ∧ ∀ l, H l = none → Q (.ref l) (upd H l (.tup ys))) ∨ (SqT K H p ys ∧ Q (.ref p) H))
theorem bd_tuple {K : PySem.W.Frag} : BiD K (rTupA K) bTuple := by
  rintro S H μ F vs ds Φ Q r a ⟨d, xs, rfl, h, q⟩ k
  obtain ⟨v, rfl, av⟩ := atL1 a
  obtain ⟨p, us, rfl, hs, hl⟩ := lis_at r av h
  exact ⟨p, us, rfl, .inl ⟨hs, new_tup r hl q k⟩⟩
def bTupleT : BF := fun ds μ Φ => ∃ d xs, ds = [d] ∧ tupD d = some xs ∧ Φ d μ
theorem bd_tupleT {K : PySem.W.Frag} : BiD K (rTupA K) bTupleT := by
  rintro S H μ F vs ds Φ Q r a ⟨d, xs, rfl, h, q⟩ k
  obtain ⟨v, rfl, av⟩ := atL1 a
  obtain ⟨p, us, rfl, hs, hl⟩ := tup_at r av h
  exact ⟨p, us, rfl, .inr ⟨hs, k S H _ _ μ (Le.refl S) r av q⟩⟩
/-- sorted(xs), fewer than 64 texts -/
def bSorted : BF := fun ds μ Φ => ∃ d xs, ds = [d] ∧ lisD μ d = some (xs.map D.str) ∧ xs.length < 64 ∧ ∀ ys : List Str, ys.Perm xs → PyProof.Rows.sortedS ys = true → Φ (.lst (ys.map D.str)) μ
theorem bd_sorted {K : PySem.W.Frag} : BiD K (rSortedS K) bSorted := by
  rintro S H μ F vs ds Φ Q r a ⟨d, xs, rfl, h, hz, q⟩ k
  obtain ⟨v, rfl, av⟩ := atL1 a
  obtain ⟨p, us, rfl, hs, hl⟩ := lis_at r av h
  rw [hl.strs] at hs
  exact ⟨p, xs, rfl, hs, hz, fun ys p2 h1 h2 h3 => new_lst r (atL_strs ys) (q ys h1 h2) k p2 h3⟩
/-- all, any of a list of bools -/
def bAll : BF := fun ds μ Φ => ∃ d, ∃ bs : List Bool, ds = [d] ∧ lisD μ d = some (bs.map D.bl) ∧ Φ (.bl (bs.all id)) μ
def bAny : BF := fun ds μ Φ => ∃ d, ∃ bs : List Bool, ds = [d] ∧ lisD μ d = some (bs.map D.bl) ∧ Φ (.bl (bs.any id)) μ
theorem bd_all {K : PySem.W.Frag} : BiD K (rAll K) bAll := by
  rintro S H μ F vs ds Φ Q r a ⟨d, bs, rfl, h, q⟩ k
  obtain ⟨v, rfl, av⟩ := atL1 a
  obtain ⟨p, us, rfl, hs, hl⟩ := lis_at r av h
  rw [hl.bls] at hs
  exact ⟨p, bs, rfl, hs, k S H _ _ μ (Le.refl S) r (.bl _) q⟩
theorem bd_any {K : PySem.W.Frag} : BiD K (rAny K) bAny := by
  rintro S H μ F vs ds Φ Q r a ⟨d, bs, rfl, h, q⟩ k
  obtain ⟨v, rfl, av⟩ := atL1 a
  obtain ⟨p, us, rfl, hs, hl⟩ := lis_at r av h
  rw [hl.bls] at hs
  exact ⟨p, bs, rfl, hs, k S H _ _ μ (Le.refl S) r (.bl _) q⟩
/-- isinstance(o, C), o an instance of the class at B -/
def bIsi (B C : Addr) (b : Bool) : BF := fun ds μ Φ => ∃ d fs, ds = [d, .adr C] ∧ insD μ d = some (B, fs) ∧ Φ (.bl b) μ

/-! ### methods of built-in types -/
abbrev MF := D → List D → Mu → KD → Prop
def MtD (K : PySem.W.Frag) (T : String) (r : V → List V → Hp → VK → Prop) (p : Mu → D → Prop) (w : MF) : Prop := (∀ (S H : Hp) (μ F : Mu) (v : V) (d : D), R K S H μ F → At K S v d → p μ d → tyV K T v H) ∧
  ∀ (S H : Hp) (μ F : Mu) (v : V) (d : D) (vs : List V) (ds : List D) (Φ : KD) (Q : VK), R K S H μ F → At K S v d → AtL K S vs ds → w d ds μ Φ → (∀ S' H' v d' μ', Le S S' → R K S' H' μ' F → At K S' v d' → Φ d' μ' → Q v H') → r v vs H Q
def dBm (p : Mu → D → Prop) (w : MF) (wo : TD) (t : TDA) : TD := fun γ μ Ξ Φ => wo γ μ Ξ fun d μ1 => p μ1 d ∧ t γ μ1 Ξ fun ds μ2 => w d ds μ2 Φ
section
variable {T id : String} {r : V → List V → Hp → VK → Prop} {pp : Mu → D → Prop} {w : MF} {wo : TD} {t : TDA} {o e : Expr} {es : List Expr} {name : Str} {apos cpos : Pos}
theorem e_bm (pa : PlainAttrs T) (slot : Slot T name id) (hty : typeOf (.builtin id) = pure (.type "method_descriptor")) (hm : MtR X id r) (hw : MtD X.K T r pp w) (ho : PE X o (tD X.K W wo)) (ha : PA X (e :: es) (tDA X.K W t))
    (hbase : attributeBase o name X.env (eval o X.env) = eval o X.env := by rfl)
    (hfew : ((backTo cpos (starEach (e :: es) X.env)).all (fun x => !x.1) && (backToKw cpos (keywordEach [] X.env)).all (fun x => x.1.isSome)
      && decide ((e :: es).length + ([] : List Keyword).length + (if ([] : List Keyword).isEmpty then 0 else 1) < 30)) = true := by rfl)
    (hline : (apos.endLine == cpos.line) = true := by rfl) (hs : starEach (e :: es) X.env = (false, eval e X.env) :: starEach es X.env := by rfl) (hplain : (backTo cpos (starEach es X.env)).any (·.1) = false := by rfl) :
    PE X (.Call (.Attribute o name apos) (e :: es) [] cpos) (tD X.K W (dBm pp w wo t)) :=
  pe_imp (pe_bm pa slot hty hm ho ha hbase hfew hline hs hplain) fun σ H Q ⟨S, γ, μ, F, Ξ, Φ, hE, hR, hX, hw', hq⟩ => ⟨S, γ, μ, F, Ξ, _, hE, hR, hX, hw', fun S1 H1 v d μ1 l1 r1 a1 ⟨h1, q1⟩ =>
    ⟨hw.1 S1 H1 μ1 F v d r1 a1 h1, S1, γ, μ1, F, Ξ, _, hE.mono l1, r1, hX.mono l1, q1, fun S2 H2 vs ds μ2 l2 r2 a2 q2 => hw.2 S2 H2 μ2 F v d vs ds _ _ r2 (a1.mono l2) a2 q2 fun S3 H3 v d μ3 l3 r3 a3 q3 => hq S3 H3 v d μ3 (l1.trans (l2.trans l3)) r3 a3 q3⟩⟩
theorem e_bm0 (pa : PlainAttrs T) (slot : Slot T name id) (hty : typeOf (.builtin id) = pure (.type "method_descriptor")) (hm : MtR X id r) (hw : MtD X.K T r pp w) (ho : PE X o (tD X.K W wo))
    (hbase : attributeBase o name X.env (eval o X.env) = eval o X.env := by rfl) (hline : (apos.endLine == cpos.line) = true := by rfl) : PE X (.Call (.Attribute o name apos) [] [] cpos) (tD X.K W (dBm pp w wo dNil)) :=
  pe_imp (pe_bm0 pa slot hty hm ho hbase hline) fun σ H Q ⟨S, γ, μ, F, Ξ, Φ, hE, hR, hX, hw', hq⟩ => ⟨S, γ, μ, F, Ξ, _, hE, hR, hX, hw', fun S1 H1 v d μ1 l1 r1 a1 ⟨h1, q1⟩ =>
    ⟨hw.1 S1 H1 μ1 F v d r1 a1 h1, hw.2 S1 H1 μ1 F v d [] [] _ _ r1 a1 .nil q1 fun S3 H3 v d μ3 l3 r3 a3 q3 => hq S3 H3 v d μ3 (l1.trans l3) r3 a3 q3⟩⟩
end
def isLis : Mu → D → Prop := fun μ d => ∃ xs, lisD μ d = some xs
theorem ty_lis {K : PySem.W.Frag} : ∀ (S H : Hp) (μ F : Mu) (v : V) (d : D), R K S H μ F → At K S v d → isLis μ d → tyV K "list" v H := fun S H μ F v d r a ⟨xs, h⟩ => by
  obtain ⟨p, vs, rfl, hs, _⟩ := lis_at r a h
  exact .inl ⟨rfl, vs, hs⟩
def isStr : Mu → D → Prop := fun _ d => ∃ x, d = .str x
theorem ty_str {K : PySem.W.Frag} : ∀ (S H : Hp) (μ F : Mu) (v : V) (d : D), R K S H μ F → At K S v d → isStr μ d → tyV K "str" v H := fun S H μ F v d r a ⟨x, h⟩ => by
  subst h
  rw [a.str_inv]; rfl
/-- xs.append(e), xs of the store -/
def mAppend : MF := fun d ds μ Φ => ∃ a xs x, d = .adr a ∧ ds = [x] ∧ μ a = some (.lst xs) ∧ xs.length < sizeLine ∧ Φ .non (updM μ a (.lst (xs ++ [x])))
theorem md_append {K : PySem.W.Frag} : MtD K "list" rAppend isLis mAppend := by
  refine ⟨ty_lis, ?_⟩
  rintro S H μ F v d vs ds Φ Q r a al ⟨p, xs, x, rfl, rfl, h, hz, q⟩ k
  obtain ⟨y, rfl, ay⟩ := atL1 al
  obtain ⟨_, o, ho, hm⟩ := r.sto p _ h
  cases o <;> first
    | exact hm.elim
    | exact ⟨p, _, y, a.adr_inv, rfl, ho, by rw [hm.1]; exact hz, k S _ _ _ _ (Le.refl S) (r.write (m := .lst (xs ++ [x])) h (hm.append (.cons ay .nil))) .non q⟩
/-- xs.extend(ys) -/
def mExtend : MF := fun d ds μ Φ => ∃ a xs e ys, d = .adr a ∧ ds = [e] ∧ μ a = some (.lst xs) ∧ lisD μ e = some ys ∧ noFro e = true ∧ xs.length + ys.length ≤ sizeLine ∧ Φ .non (updM μ a (.lst (xs ++ ys)))
theorem md_extend {K : PySem.W.Frag} : MtD K "list" rExtend isLis mExtend := by
  refine ⟨ty_lis, ?_⟩
  rintro S H μ F v d vs ds Φ Q r a al ⟨p, xs, e, ys, rfl, rfl, h, h2, hf, hz, q⟩ k
  obtain ⟨y, rfl, ay⟩ := atL1 al
  obtain ⟨_, o, ho, hm⟩ := r.sto p _ h
  obtain ⟨p2, ws, rfl, hs, hl⟩ := own_at r ay h2 (noFro_ne hf)
  cases o <;> first
    | exact hm.elim
    | exact ⟨p, p2, _, _, a.adr_inv, rfl, ho, hs, by rw [hm.1, hl.1]; exact hz, k S _ _ _ _ (Le.refl S) (r.write (m := .lst (xs ++ ys)) h (hm.append hl)) .non q⟩
/-- sep.join(xs) -/
def mJoin : MF := fun d ds μ Φ => ∃ x e ys, d = .str x ∧ ds = [e] ∧ itemsD μ e = some (ys.map D.str) ∧ (ys.map (·.length)).sum + ys.length * x.length ≤ 16777216 ∧ Φ (.str (Txt.join x ys)) μ
def rJoinA (K : PySem.W.Frag) : V → List V → Hp → VK → Prop := fun x xs H Q => ∃ a p, ∃ ys : List Str, x = .str a ∧ xs = [.ref p] ∧ (SqL K H p (ys.map V.str) ∨ SqT K H p (ys.map V.str)) ∧ (ys.map (·.length)).sum + ys.length * a.length ≤ 16777216 ∧ Q (.str (Txt.join a ys)) H
theorem md_join {K : PySem.W.Frag} : MtD K "str" (rJoinA K) isStr mJoin := by
  refine ⟨ty_str, ?_⟩
  rintro S H μ F v d vs ds Φ Q r a al ⟨x, e, ys, rfl, rfl, h, hz, q⟩ k
  obtain ⟨y, rfl, ay⟩ := atL1 al
  obtain ⟨p, ws, rfl, hs, hl⟩ := items_at r ay h
  rw [hl.strs] at hs
  exact ⟨x, p, ys, a.str_inv, rfl, hs, hz, k S H _ _ μ (Le.refl S) r (.str _) q⟩
end
end
end DL

/-! # DL6: statements, loops, comprehensions, defs, own operators -/
namespace DL
open PySem L2

section
variable {X : Cx} {W : WX}
/-! ### blocks and small statements -/
def dNext : TDS := fun DD γ μ _ => DD.nx γ μ
def dSeq (t u : TDS) : TDS := fun DD γ μ Ξ => t { DD with nx := fun γ' μ' => u DD γ' μ' Ξ } γ μ Ξ
section
variable {st : Stmt} {rest : List Stmt} {t u : TDS} {e : Expr} {w : TD} {pos : Pos}
theorem ss_nil : PSs X [] (tDS X.K W dNext) := pss_imp pss_nil fun D σ H ⟨S, γ, μ, F, Ξ, DD, hE, hR, hX, hw, hD⟩ => hD.nx S H σ γ μ (Le.refl S) hE hR hw
theorem ss_cons (h1 : PS X st (tDS X.K W t)) (h2 : PSs X rest (tDS X.K W u)) : PSs X (st :: rest) (tDS X.K W (dSeq t u)) :=
  pss_imp (pss_cons h1 h2) fun D σ H ⟨S, γ, μ, F, Ξ, DD, hE, hR, hX, hw, hD⟩ => ⟨S, γ, μ, F, Ξ, _, hE, hR, hX, hw, ⟨fun S1 H1 σ1 γ1 μ1 l1 e1 r1 q1 => ⟨S1, γ1, μ1, F, Ξ, DD, e1, r1, hX.mono l1, q1, hD.mono l1⟩, hD.rt, hD.bk, hD.ct⟩⟩
theorem ss_one (h1 : PS X st (tDS X.K W t)) : PSs X [st] (tDS X.K W t) := pss_one h1
def dBreak : TDS := fun DD γ μ _ => DD.bk γ μ
def dCont : TDS := fun DD γ μ _ => DD.ct γ μ
theorem s_pass : PS X (.Pass pos) (tDS X.K W dNext) := ps_imp ps_pass fun D σ H ⟨S, γ, μ, F, Ξ, DD, hE, hR, hX, hw, hD⟩ => hD.nx S H σ γ μ (Le.refl S) hE hR hw
theorem s_break : PS X (.Break pos) (tDS X.K W dBreak) := ps_imp ps_break fun D σ H ⟨S, γ, μ, F, Ξ, DD, hE, hR, hX, hw, hD⟩ => hD.bk S H σ γ μ (Le.refl S) hE hR hw
theorem s_continue : PS X (.Continue pos) (tDS X.K W dCont) := ps_imp ps_continue fun D σ H ⟨S, γ, μ, F, Ξ, DD, hE, hR, hX, hw, hD⟩ => hD.ct S H σ γ μ (Le.refl S) hE hR hw
theorem s_doc {x j pos pos'} : PS X (.Expr (.Constant (.str x) j pos) pos') (tDS X.K W dNext) := ps_imp ps_doc fun D σ H ⟨S, γ, μ, F, Ξ, DD, hE, hR, hX, hw, hD⟩ => hD.nx S H σ γ μ (Le.refl S) hE hR hw
def dDrop (w : TD) : TDS := fun DD γ μ Ξ => w γ μ Ξ fun _ μ1 => DD.nx γ μ1
theorem s_expr (h : PE X e (tD X.K W w)) (hs : swapsWith e none pos.line X.env = pure false := by rfl) : PS X (.Expr e pos) (tDS X.K W (dDrop w)) :=
  ps_imp (ps_expr h hs) fun D σ H ⟨S, γ, μ, F, Ξ, DD, hE, hR, hX, hw, hD⟩ => ⟨S, γ, μ, F, Ξ, _, hE, hR, hX, hw, fun S1 H1 v d μ1 l1 r1 a1 q1 => hD.nx S1 H1 σ γ μ1 l1 (hE.mono l1) r1 q1⟩
def dRet (w : TD) : TDS := fun DD γ μ Ξ => w γ μ Ξ fun d μ1 => DD.rt d μ1
theorem s_ret (h : PE X e (tD X.K W w)) : PS X (.Return (some e) pos) (tDS X.K W (dRet w)) :=
  ps_imp (ps_ret h) fun D σ H ⟨S, γ, μ, F, Ξ, DD, hE, hR, hX, hw, hD⟩ => ⟨S, γ, μ, F, Ξ, _, hE, hR, hX, hw, fun S1 H1 v d μ1 l1 r1 a1 q1 => hD.rt S1 H1 v d μ1 l1 r1 a1 q1⟩
def dRetN : TDS := fun DD _ μ _ => DD.rt .non μ
theorem s_retN : PS X (.Return none pos) (tDS X.K W dRetN) := ps_imp ps_retN fun D σ H ⟨S, γ, μ, F, Ξ, DD, hE, hR, hX, hw, hD⟩ => hD.rt S H _ _ μ (Le.refl S) hR .non hw
def dIf (c : TDT) (t u : TDS) : TDS := fun DD γ μ Ξ => c γ μ Ξ fun b μ1 => if b = true then t DD γ μ1 Ξ else u DD γ μ1 Ξ
theorem s_if {c : Expr} {a b : List Stmt} {wc : TDT} (hc : PT X c (tDT X.K W wc)) (ha : PSs X a (tDS X.K W t)) (hb : PSs X b (tDS X.K W u)) : PS X (.If c a b pos) (tDS X.K W (dIf wc t u)) :=
  ps_imp (ps_if hc ha hb) fun D σ H ⟨S, γ, μ, F, Ξ, DD, hE, hR, hX, hw, hD⟩ => ⟨S, γ, μ, F, Ξ, _, hE, hR, hX, hw, fun S1 H1 c μ1 l1 r1 q1 => by
    cases c with
    | true => rw [if_pos rfl] at q1 ⊢; exact ⟨S1, γ, μ1, F, Ξ, DD, hE.mono l1, r1, hX.mono l1, q1, hD.mono l1⟩
    | false => rw [if_neg Bool.false_ne_true] at q1 ⊢; exact ⟨S1, γ, μ1, F, Ξ, DD, hE.mono l1, r1, hX.mono l1, q1, hD.mono l1⟩⟩
end
/-! ### targets -/
def gNm (i : Nat) : TDG := fun d γ μ _ Φ => Φ (γ.set i (some d)) μ
theorem g_name (i : Nat) {x : Str} {pos : Pos} (hN : X.N.Nodup) (hi : X.N[i]? = some x := by rfl) (hx : Loc X.env.scope x := by first | exact .inl rfl | exact .inr rfl) (hf : X.fn x = true ∨ X.env.scope.names.lookup x = some .local := by first | exact .inl rfl | exact .inr rfl) : PG X (.Name x pos) (tDG X.K W (gNm i)) :=
  pg_imp (pg_name hN hi hx hf) fun v σ H Q ⟨S, γ, μ, F, Ξ, Φ, d, hE, hR, hX, ha, hw, hq⟩ => hq S H _ _ μ (Le.refl S) (hE.set ha) hR hw
abbrev TDGs := List D → Ga → Mu → XD → (Ga → Mu → Prop) → Prop
def tDGs (K : PySem.W.Frag) (W : WX) (w : TDGs) : TGs := fun vs σ H Q => ∃ S γ μ F Ξ Φ ds, Env K S σ γ ∧ R K S H μ F ∧ XOk K S F W Ξ ∧ AtL K S vs ds ∧ w ds γ μ Ξ Φ ∧ ∀ S' H' σ' γ' μ', Le S S' → Env K S' σ' γ' → R K S' H' μ' F → Φ γ' μ' → Q σ' H'
theorem pgs_imp {e : List Expr} {t t' : TGs} (h : PGs X e t) (i : ∀ v σ H Q, t' v σ H Q → t v σ H Q) : PGs X e t' := ⟨fun p s σ H vs us Q I r q => h.run p s σ H vs us Q I r (i vs σ H Q q)⟩
def gNl : TDGs := fun ds γ μ _ Φ => ds = [] ∧ Φ γ μ
def gCn (t : TDG) (u : TDGs) : TDGs := fun ds γ μ Ξ Φ => ∃ d r, ds = d :: r ∧ t d γ μ Ξ fun γ1 μ1 => u r γ1 μ1 Ξ Φ
theorem gs_nil : PGs X [] (tDGs X.K W gNl) := pgs_imp pgs_nil fun vs σ H Q ⟨S, γ, μ, F, Ξ, Φ, ds, hE, hR, hX, ha, ⟨e, hw⟩, hq⟩ => by
  subst e
  have h0 : vs = [] := List.length_eq_zero_iff.mp ha.1
  exact ⟨h0, hq S H σ γ μ (Le.refl S) hE hR hw⟩
theorem gs_cons {e : Expr} {es : List Expr} {t : TDG} {u : TDGs} (h1 : PG X e (tDG X.K W t)) (h2 : PGs X es (tDGs X.K W u)) (hs : (assignEach (e :: es) X.env).map (·.2) = assign e X.env :: (assignEach es X.env).map (·.2) := by rfl) : PGs X (e :: es) (tDGs X.K W (gCn t u)) :=
  pgs_imp (pgs_cons h1 h2 hs) fun vs σ H Q ⟨S, γ, μ, F, Ξ, Φ, ds, hE, hR, hX, ha, ⟨d, r, e, hw⟩, hq⟩ => by
    subst e
    cases vs with
    | nil => have := ha.1; simp at this
    | cons v vr =>
      exact ⟨v, vr, rfl, S, γ, μ, F, Ξ, _, d, hE, hR, hX, ha.head, hw, fun S1 H1 σ1 γ1 μ1 l1 e1 r1 q1 => ⟨S1, γ1, μ1, F, Ξ, Φ, r, e1, r1, hX.mono l1, ha.tail.mono l1, q1, fun S2 H2 σ2 γ2 μ2 l2 e2 r2 q2 => hq S2 H2 σ2 γ2 μ2 (l1.trans l2) e2 r2 q2⟩⟩
def gTp (n : Nat) (t : TDGs) : TDG := fun d γ μ Ξ Φ => ∃ ds, tupD d = some ds ∧ ds.length = n ∧ t ds γ μ Ξ Φ
theorem g_tup {es : List Expr} {k n : Nat} {pos : Pos} {t : TDGs} (hc : X.calm = true) (h : PGs X es (tDGs X.K W t)) (hn : (assignEach es X.env).length = n := by rfl) (hst : (assignEach es X.env).findIdx? (·.1) = none := by rfl) : PG X (.Tuple es k pos) (tDG X.K W (gTp n t)) :=
  pg_imp (pg_tup hc h hn hst) fun v σ H Q ⟨S, γ, μ, F, Ξ, Φ, d, hE, hR, hX, ha, ⟨ds, h1, h2, hw⟩, hq⟩ => by
    obtain ⟨p, vs, rfl, hs, hl⟩ := tup_at hR ha h1
    exact ⟨p, vs, rfl, hs, by rw [hl.1]; exact h2, S, γ, μ, F, Ξ, Φ, ds, hE, hR, hX, hl, hw, hq⟩
/-- xs[i] = e -/
def gIx (wo wi : TD) : TDG := fun d γ μ Ξ Φ => wo γ μ Ξ fun o μ1 => wi γ μ1 Ξ fun i μ2 => ∃ a xs k j, o = .adr a ∧ i = .int k ∧ μ2 a = some (.lst xs) ∧ ixN xs.length k = some j ∧ Φ γ (updM μ2 a (.lst (xs.set j d)))
theorem g_ix {o i : Expr} {wo wi : TD} {pos : Pos} (ho : PE X o (tD X.K W wo)) (hi : PE X i (tD X.K W wi)) (hs : ∀ v, assign (.Subscript o i pos) X.env v = (do
      let ov ← holding [v] (eval o X.env)
      let iv ← holding [v, ov] (eval i X.env)
      standAt pos
      holding [v, ov, iv] (setItem ov iv v)
      release [v, ov, iv] []) := by intro _; rfl) : PG X (.Subscript o i pos) (tDG X.K W (gIx wo wi)) :=
  pg_imp (pg_sub ho hi set_list hs) fun v σ H Q ⟨S, γ, μ, F, Ξ, Φ, d, hE, hR, hX, ha, hw, hq⟩ => ⟨S, γ, μ, F, Ξ, _, hE, hR, hX, hw, fun S1 H1 ov od μ1 l1 r1 a1 q1 => ⟨S1, γ, μ1, F, Ξ, _, hE.mono l1, r1, hX.mono l1, q1, fun S2 H2 iv id μ2 l2 r2 a2 ⟨a, xs, k, j, e1, e2, h1, h2, q2⟩ => by
    subst e1; subst e2
    obtain ⟨_, o, ho, hm⟩ := r2.sto a _ h1
    cases o <;> first
      | exact hm.elim
      | exact ⟨a, _, k, j, (a1.mono l2).adr_inv, a2.int_inv, ho, by rw [hm.1]; exact h2, hq S2 _ σ γ _ (l1.trans l2) (hE.mono (l1.trans l2)) (r2.write (m := .lst (xs.set j d)) h1 (AtL.set ((ha.mono l1).mono l2) hm)) q2⟩⟩⟩
def dAsg (w : TD) (g : TDG) : TDS := fun DD γ μ Ξ => w γ μ Ξ fun d μ1 => g d γ μ1 Ξ DD.nx
section
variable {e : Expr} {w : TD} {g : TDG} {pos : Pos}
theorem asg_go {σ : L2.St} {H : Hp} {D : Ends} (h : tDS X.K W (dAsg w g) D σ H) : tAsg (tD X.K W w) (tDG X.K W g) D σ H := by
  obtain ⟨S, γ, μ, F, Ξ, DD, hE, hR, hX, hw, hD⟩ := h
  exact ⟨S, γ, μ, F, Ξ, _, hE, hR, hX, hw, fun S1 H1 v d μ1 l1 r1 a1 q1 => ⟨S1, γ, μ1, F, Ξ, DD.nx, d, hE.mono l1, r1, hX.mono l1, a1, q1, fun S2 H2 σ2 γ2 μ2 l2 e2 r2 q2 => hD.nx S2 H2 σ2 γ2 μ2 (l1.trans l2) e2 r2 q2⟩⟩
theorem s_asg {tg : Expr} (he : PE X e (tD X.K W w)) (hg : PG X tg (tDG X.K W g)) (hs : swapsWithSole [tg] e pos.line X.env = pure false := by rfl) (hw : swappedStores [tg] e X.env = pure none := by rfl) (h1 : (assignEach [tg] X.env).map (·.2) = [assign tg X.env] := by rfl) : PS X (.Assign [tg] e pos) (tDS X.K W (dAsg w g)) :=
  ps_imp (ps_asg he hg hs hw h1) fun _ _ _ h => asg_go h
theorem s_set (i : Nat) {x : Str} {pos' : Pos} (hN : X.N.Nodup) (he : PE X e (tD X.K W w)) (hi : X.N[i]? = some x := by rfl) (hx : Loc X.env.scope x := by first | exact .inl rfl | exact .inr rfl) (hs : swapsWith e (some (.Name x pos')) pos.line X.env = pure false := by rfl) (hf : X.fn x = true ∨ X.env.scope.names.lookup x = some .local := by first | exact .inl rfl | exact .inr rfl) :
    PS X (.Assign [.Name x pos'] e pos) (tDS X.K W (dAsg w (gNm i))) :=
  ps_imp (ps_set hN hi hx he hs hf) fun D σ H ⟨S, γ, μ, F, Ξ, DD, hE, hR, hX, hw, hD⟩ => ⟨S, γ, μ, F, Ξ, _, hE, hR, hX, hw, fun S1 H1 v d μ1 l1 r1 a1 q1 => hD.nx S1 H1 _ _ μ1 l1 ((hE.mono l1).set a1) r1 q1⟩
/-- x op= e -/
def dAug (i : Nat) (w : TD) (o : OD) : TDS := fun DD γ μ Ξ => ∃ x, γ[i]? = some (some x) ∧ w γ μ Ξ fun y μ1 => o x y μ1 fun z μ2 => DD.nx (γ.set i (some z)) μ2
theorem s_aug (i : Nat) {x : Str} {op : Operator} {r : R2} {o : OD} {pos' : Pos} (hN : X.N.Nodup) (ho : OpR X (inplaceOp op) r) (hw : OpD X.K r o) (he : PE X e (tD X.K W w)) (hi : X.N[i]? = some x := by rfl) (hx : Loc X.env.scope x := by first | exact .inl rfl | exact .inr rfl) (hf : X.fn x = true ∨ X.env.scope.names.lookup x = some .local := by first | exact .inl rfl | exact .inr rfl) :
    PS X (.AugAssign (.Name x pos') op e pos) (tDS X.K W (dAug i w o)) :=
  ps_imp (ps_aug (ti := r) hN hi hx he (fun pins s σ H x y v u Q I rx ry h => ho pins s σ H x y v u Q I rx ry h) hf) fun D σ H ⟨S, γ, μ, F, Ξ, DD, hE, hR, hX, ⟨d, h1, hw'⟩, hD⟩ => by
    obtain ⟨v, h2, h3⟩ := hE.2 i d h1
    exact ⟨v, h2, S, γ, μ, F, Ξ, _, hE, hR, hX, hw', fun S1 H1 y dy μ1 l1 r1 a1 q1 => hw S1 H1 μ1 F v y d dy _ _ r1 (h3.mono l1) a1 q1 fun S2 H2 z dz μ2 l2 r2 a2 q2 => hD.nx S2 H2 _ _ μ2 (l1.trans l2) ((hE.mono (l1.trans l2)).set a2) r2 q2⟩
theorem od_iaddI {K : PySem.W.Frag} : OpD K (rI0 fun i j => V.int (i + j)) (oI0 fun i j => .int (i + j)) := op_I0 fun _ _ _ => .int _
end

/-! ### what loops walk -/
/-- G: what of the store must stand through the loop -/
def ItOk (K : PySem.W.Frag) (S : Hp) (G : Mu → Prop) (J : It) (ds : List D) : Prop := ∀ (S' H : Hp) (μ F : Mu) (i : Nat), Le S S' → R K S' H μ F → G μ →
  (∀ d, ds[i]? = some d → J.go i H ∧ ∀ x H', J.yld i H x H' → ∃ S'', Le S' S'' ∧ R K S'' H' μ F ∧ At K S'' x d) ∧ (ds[i]? = none → J.stop i H)
abbrev TDI := Ga → Mu → XD → (List D → (Mu → Prop) → Mu → Prop) → Prop
def tDI (K : PySem.W.Frag) (W : WX) (w : TDI) : TI := fun σ H Rr => ∃ S γ μ F Ξ Φ, Env K S σ γ ∧ R K S H μ F ∧ XOk K S F W Ξ ∧ w γ μ Ξ Φ ∧ ∀ S' H' J ds G μ', Le S S' → R K S' H' μ' F → ItOk K S' G J ds → Φ ds G μ' → Rr J H'
theorem pi_imp {tg e : Expr} {t t' : TI} (h : PI X tg e t) (i : ∀ σ H Q, t' σ H Q → t σ H Q) : PI X tg e t' := ⟨fun p s σ H Q I q => h.run p s σ H Q I (i σ H Q q)⟩
/-- a list or a tuple -/
def iSeq (K : PySem.W.Frag) (tl : TE) : TI := fun σ H Rr => tl σ H fun x H1 => ∃ a, x = .ref a ∧ (((∃ xs, SqL K H1 a xs) ∧ Rr (Itl K a) H1) ∨ ((∃ xs, SqT K H1 a xs) ∧ Rr (Itt K a) H1))
theorem pi_seq {tg l : Expr} {tl : TE} (hl : PE X l tl) : PI X tg l (iSeq X.K tl) := by
  refine ⟨fun pins s σ H Rr I h => ?_⟩
  refine thn (hl.run pins s σ H _ I h) fun v s1 ⟨x, H1, I1, r1, a, e, q⟩ => ?_
  subst e
  cases r1
  rcases q with ⟨⟨xs, hq⟩, q⟩ | ⟨⟨xs, hq⟩, q⟩
  · obtain ⟨its, rv, p, hz⟩ := I1.list hq
    refine wpAny_pyIter_list p.isList ?_
    refine ⟨s1.heap.objs.size, [s1.heap.objs.size], _, _, H1, rfl, I1.kept (t' := s1.toks) fun b o e => Heap.get?_push_of_some _ e, turn_list a _, ⟨_, Heap.get?_push_size _ rfl, rfl, rfl⟩, fun b hb => ?_, q⟩
    obtain rfl : b = s1.heap.objs.size := by simpa using hb
    exact I1.fpOk (Nat.le_refl _) (I1.hok.fresh (Nat.le_refl _))
  · obtain ⟨its, rv, p, hz⟩ := I1.tuple hq
    refine wpAny_pyIter_tuple (show s1.heap.IsTuple a its.toArray from p) ?_
    refine ⟨s1.heap.objs.size, [s1.heap.objs.size], _, _, H1, rfl, I1.kept (t' := s1.toks) fun b o e => Heap.get?_push_of_some _ e, turn_tuple a _, ⟨_, Heap.get?_push_size _ rfl, rfl, rfl⟩, fun b hb => ?_, q⟩
    obtain rfl : b = s1.heap.objs.size := by simpa using hb
    exact I1.fpOk (Nat.le_refl _) (I1.hok.fresh (Nat.le_refl _))
/-- the guard of a walk over d: what the store has there -/
def grdD : D → List D → Mu → Prop
  | .adr a, xs => fun μ => μ a = some (.lst xs)
  | _, _ => fun _ => True
def dIt (w : TD) : TDI := fun γ μ Ξ Φ => w γ μ Ξ fun d μ1 => ∃ xs, itemsD μ1 d = some xs ∧ Φ xs (grdD d xs) μ1
theorem itl_ok {K : PySem.W.Frag} {S : Hp} {G : Mu → Prop} {p : Addr} {ds : List D} (h : ∀ (S' H : Hp) (μ F : Mu), Le S S' → R K S' H μ F → G μ → ∃ vs, SqL K H p vs ∧ AtL K S' vs ds) : ItOk K S G (Itl K p) ds := by
  intro S' H μ F i l r g
  obtain ⟨vs, h0, a⟩ := h S' H μ F l r g
  refine ⟨fun d hd => ?_, fun hn => ⟨vs, h0, by rw [a.1]; exact List.getElem?_eq_none_iff.mp hn⟩⟩
  obtain ⟨v, h1, h2⟩ := a.get hd
  refine ⟨⟨vs, v, h0, h1⟩, fun x H' ⟨e, y⟩ => ?_⟩
  subst e
  have q := y vs h0
  rw [h1] at q
  cases q
  exact ⟨S', Le.refl S', r, h2⟩
theorem itt_ok {K : PySem.W.Frag} {S : Hp} {G : Mu → Prop} {p : Addr} {ds : List D} (h : ∀ (S' H : Hp) (μ F : Mu), Le S S' → R K S' H μ F → G μ → ∃ vs, SqT K H p vs ∧ AtL K S' vs ds) : ItOk K S G (Itt K p) ds := by
  intro S' H μ F i l r g
  obtain ⟨vs, h0, a⟩ := h S' H μ F l r g
  refine ⟨fun d hd => ?_, fun hn => ⟨vs, h0, by rw [a.1]; exact List.getElem?_eq_none_iff.mp hn⟩⟩
  obtain ⟨v, h1, h2⟩ := a.get hd
  refine ⟨⟨vs, v, h0, h1⟩, fun x H' ⟨e, y⟩ => ?_⟩
  subst e
  have q := y vs h0
  rw [h1] at q
  cases q
  exact ⟨S', Le.refl S', r, h2⟩
theorem grd_now {μ : Mu} {d : D} {xs : List D} (h : itemsD μ d = some xs) : grdD d xs μ := by
  cases d with
  | adr a => exact lisM_inv (show lisM (μ a) = some xs from h)
  | _ => trivial
theorem items_then {μ μ' : Mu} {d : D} {xs : List D} (h : itemsD μ d = some xs) (g : grdD d xs μ') : itemsD μ' d = some xs := by
  cases d with
  | adr a =>
    have g : μ' a = some (.lst xs) := g
    show lisM (μ' a) = some xs
    rw [g]; rfl
  | _ => exact h
theorem i_seq {tg l : Expr} {w : TD} (hl : PE X l (tD X.K W w)) : PI X tg l (tDI X.K W (dIt w)) :=
  pi_imp (pi_seq hl) fun σ H Rr ⟨S, γ, μ, F, Ξ, Φ, hE, hR, hX, hw, hq⟩ => ⟨S, γ, μ, F, Ξ, _, hE, hR, hX, hw, fun S1 H1 v d μ1 l1 r1 a1 ⟨xs, h1, q1⟩ => by
    have hc : lisD μ1 d = some xs ∨ tupD d = some xs := by
      cases d <;> first | exact .inl h1 | exact .inr h1
    rcases hc with hc | hc
    · obtain ⟨p, vs, rfl, hs, hl⟩ := lis_at r1 a1 hc
      refine ⟨p, rfl, .inl ⟨⟨vs, hs⟩, hq S1 H1 _ xs (grdD d xs) μ1 l1 r1 (itl_ok fun S' H' μ' F' l r g => ?_) q1⟩⟩
      have h2 := items_then h1 g
      have hc2 : lisD μ' d = some xs := by cases d <;> first | exact h2 | cases hc
      obtain ⟨p', vs', e, hs', hl'⟩ := lis_at r (a1.mono l) hc2
      cases e
      exact ⟨vs', hs', hl'⟩
    · obtain ⟨p, vs, rfl, hs, hl⟩ := tup_at r1 a1 hc
      refine ⟨p, rfl, .inr ⟨⟨vs, hs⟩, hq S1 H1 _ xs (grdD d xs) μ1 l1 r1 (itt_ok fun S' H' μ' F' l r g => ?_) q1⟩⟩
      obtain ⟨p', vs', e, hs', hl'⟩ := tup_at r (a1.mono l) hc
      cases e
      exact ⟨vs', hs', hl'⟩⟩
/-- the ints lo, lo + 1, .. , n of them -/
def rngD (lo : Int) (n : Nat) : List D := (List.range n).map fun (i : Nat) => D.int (lo + i)
theorem itr_ok {K : PySem.W.Frag} {S : Hp} {G : Mu → Prop} {lo : Int} {n : Nat} : ItOk K S G (Itr lo n) (rngD lo n) := by
  intro S' H μ F i l r g
  refine ⟨fun d hd => ?_, fun hn => ?_⟩
  · unfold rngD at hd
    rw [List.getElem?_map] at hd
    by_cases hi : i < n
    · rw [List.getElem?_range hi] at hd
      cases hd
      refine ⟨hi, fun x H' ⟨e, y⟩ => ?_⟩
      subst e; subst y
      exact ⟨S', Le.refl S', r, .int _⟩
    · rw [List.getElem?_eq_none (by simpa using Nat.le_of_not_lt hi)] at hd
      cases hd
  · unfold rngD at hn
    have := List.getElem?_eq_none_iff.mp hn
    show n ≤ i
    simpa using this
def dRng1 (t : TDA) : TDI := fun γ μ Ξ Φ => t γ μ Ξ fun ds μ1 => ∃ j : Int, ds = [.int j] ∧ -(2 ^ 62) ≤ j ∧ j < 2 ^ 62 ∧ Φ (rngD 0 j.toNat) (fun _ => True) μ1
theorem i_range1 {tg a : Expr} {t : TDA} {p pos : Pos} (hm : X.mg "range" = none) (ha : PA X [a] (tDA X.K W t)) (hg : Gl X "range" := by rfl) (hs : starEach [a] X.env = [(false, eval a X.env)] := by rfl) : PI X tg (.Call (.Name "range" p) [a] [] pos) (tDI X.K W (dRng1 t)) :=
  pi_imp (pi_range1 hg hm ha hs) fun σ H Rr ⟨S, γ, μ, F, Ξ, Φ, hE, hR, hX, hw, hq⟩ => ⟨S, γ, μ, F, Ξ, _, hE, hR, hX, hw, fun S1 H1 vs ds μ1 l1 r1 a1 ⟨j, e, b1, b2, q1⟩ => by
    subst e
    obtain ⟨v, rfl, av⟩ := atL1 a1
    exact ⟨j, by rw [av.int_inv], b1, b2, hq S1 H1 _ _ _ μ1 l1 r1 itr_ok q1⟩⟩
def dRng2 (t : TDA) : TDI := fun γ μ Ξ Φ => t γ μ Ξ fun ds μ1 => ∃ i j : Int, ds = [.int i, .int j] ∧ (-(2 ^ 62) ≤ i ∧ i < 2 ^ 62 ∧ -(2 ^ 62) ≤ j ∧ j < 2 ^ 62) ∧ Φ (rngD i (j - i).toNat) (fun _ => True) μ1
theorem i_range2 {tg a b : Expr} {t : TDA} {p pos : Pos} (hm : X.mg "range" = none) (ha : PA X [a, b] (tDA X.K W t)) (hg : Gl X "range" := by rfl) (hs : starEach [a, b] X.env = [(false, eval a X.env), (false, eval b X.env)] := by rfl) (hs2 : starEach [b] X.env = [(false, eval b X.env)] := by rfl) : PI X tg (.Call (.Name "range" p) [a, b] [] pos) (tDI X.K W (dRng2 t)) :=
  pi_imp (pi_range2 hg hm ha hs hs2) fun σ H Rr ⟨S, γ, μ, F, Ξ, Φ, hE, hR, hX, hw, hq⟩ => ⟨S, γ, μ, F, Ξ, _, hE, hR, hX, hw, fun S1 H1 vs ds μ1 l1 r1 a1 ⟨i, j, e, b1, q1⟩ => by
    subst e
    obtain ⟨v, u, rfl, av, au⟩ := atL2 a1
    exact ⟨i, j, by rw [av.int_inv, au.int_inv], b1, hq S1 H1 _ _ _ μ1 l1 r1 itr_ok q1⟩⟩

/-! ### for, while -/
def dFor (wi : TDI) (wg : TDG) (wb : TDS) : TDS := fun DD γ μ Ξ => wi γ μ Ξ fun ds G μ1 => ∃ I : Nat → Ga → Mu → Prop, I 0 γ μ1 ∧ (∀ i γ' μ', I i γ' μ' → G μ') ∧
  (∀ i d γ' μ', ds[i]? = some d → I i γ' μ' → wg d γ' μ' Ξ fun γ2 μ2 => wb { nx := I (i + 1), ct := I (i + 1), bk := DD.nx, rt := DD.rt } γ2 μ2 Ξ) ∧ ∀ γ' μ', I ds.length γ' μ' → DD.nx γ' μ'
theorem s_for {tg iter : Expr} {body : List Stmt} {wi : TDI} {wg : TDG} {wb : TDS} {pos : Pos} (hp : PassesOwn (model X.prog X.w) X.A X.env X.xe) (hc : X.calm = true) (hi : PI X tg iter (tDI X.K W wi)) (hg : PG X tg (tDG X.K W wg)) (hb : PSs X body (tDS X.K W wb))
    (hs : ∀ x, foldedSetIterable iter X.env x = pure x := by intro _; rfl) : PS X (.For tg iter body [] pos) (tDS X.K W (dFor wi wg wb)) :=
  ps_imp (ps_for hp hc hi hg hb hs) fun D σ H ⟨S, γ, μ, F, Ξ, DD, hE, hR, hX, hw, hD⟩ => by
    refine ⟨S, γ, μ, F, Ξ, _, hE, hR, hX, hw, fun S1 H1 J ds G μ1 l1 r1 it ⟨I, i0, ig, is, ie⟩ => ?_⟩
    refine ⟨fun i m σ H => m = ds.length - i ∧ i ≤ ds.length ∧ ∃ S' γ' μ', Le S1 S' ∧ Env X.K S' σ γ' ∧ R X.K S' H μ' F ∧ I i γ' μ', ⟨ds.length, by simp, Nat.zero_le _, S1, γ, μ1, Le.refl S1, hE.mono l1, r1, i0⟩, ?_⟩
    rintro i m σ' H' ⟨rfl, hi, S2, γ2, μ2, l2, e2, r2, q2⟩
    have io := it S2 H' μ2 F i l2 r2 (ig i γ2 μ2 q2)
    by_cases hlt : i < ds.length
    · have hd : ds[i]? = some ds[i] := List.getElem?_eq_getElem hlt
      obtain ⟨go, yl⟩ := io.1 _ hd
      refine .inr ⟨go, fun σ' H' => ∃ S' γ' μ', Le S1 S' ∧ Env X.K S' σ' γ' ∧ R X.K S' H' μ' F ∧ I (i + 1) γ' μ', fun σ3 H3 z => ⟨ds.length - (i + 1), by omega, rfl, hlt, z⟩, fun x H3 y => ?_⟩
      obtain ⟨S3, l3, r3, a3⟩ := yl x H3 y
      refine ⟨S3, γ2, μ2, F, Ξ, _, ds[i], e2.mono l3, r3, hX.mono (l1.trans (l2.trans l3)), a3, is i _ γ2 μ2 hd q2, fun S4 H4 σ4 γ4 μ4 l4 e4 r4 q4 => ?_⟩
      refine ⟨S4, γ4, μ4, F, Ξ, _, e4, r4, hX.mono (l1.trans (l2.trans (l3.trans l4))), q4, ⟨fun S5 H5 σ5 γ5 μ5 l5 e5 r5 q5 => ⟨S5, γ5, μ5, l2.trans (l3.trans (l4.trans l5)), e5, r5, q5⟩, fun S5 H5 v d μ5 l5 r5 a5 q5 => hD.rt S5 H5 v d μ5 (l1.trans (l2.trans (l3.trans (l4.trans l5)))) r5 a5 q5,
        fun S5 H5 σ5 γ5 μ5 l5 e5 r5 q5 => hD.nx S5 H5 σ5 γ5 μ5 (l1.trans (l2.trans (l3.trans (l4.trans l5)))) e5 r5 q5, fun S5 H5 σ5 γ5 μ5 l5 e5 r5 q5 => ⟨S5, γ5, μ5, l2.trans (l3.trans (l4.trans l5)), e5, r5, q5⟩⟩⟩
    · have e : i = ds.length := by omega
      subst e
      exact .inl ⟨io.2 (List.getElem?_eq_none (Nat.le_refl _)), hD.nx S2 H' σ' γ2 μ2 (l1.trans l2) e2 r2 (ie γ2 μ2 q2)⟩
def dWhile (t : TDT) (wb : TDS) : TDS := fun DD γ μ Ξ => ∃ I : Nat → Ga → Mu → Prop, (∃ m, I m γ μ) ∧ ∀ m γ' μ', I m γ' μ' → t γ' μ' Ξ fun b μ2 => if b = true then wb { nx := fun γ2 μ3 => ∃ m', m' < m ∧ I m' γ2 μ3, ct := fun γ2 μ3 => ∃ m', m' < m ∧ I m' γ2 μ3, bk := DD.nx, rt := DD.rt } γ' μ2 Ξ else DD.nx γ' μ2
theorem s_while {c : Expr} {body : List Stmt} {t : TDT} {wb : TDS} {pos : Pos} (hp : PassesOwn (model X.prog X.w) X.A X.env X.xe) (hc : PT X c (tDT X.K W t)) (hb : PSs X body (tDS X.K W wb)) : PS X (.While c body [] pos) (tDS X.K W (dWhile t wb)) :=
  ps_imp (ps_while hp hc hb) fun D σ H ⟨S, γ, μ, F, Ξ, DD, hE, hR, hX, ⟨I, ⟨m0, i0⟩, is⟩, hD⟩ => by
    refine ⟨fun m σ H => ∃ S' γ' μ', Le S S' ∧ Env X.K S' σ γ' ∧ R X.K S' H μ' F ∧ I m γ' μ', ⟨m0, S, γ, μ, Le.refl S, hE, hR, i0⟩, ?_⟩
    rintro m σ' H' ⟨S1, γ1, μ1, l1, e1, r1, q1⟩
    refine ⟨S1, γ1, μ1, F, Ξ, _, e1, r1, hX.mono l1, is m γ1 μ1 q1, fun S2 H2 b μ2 l2 r2 q2 => ?_⟩
    cases b with
    | false => rw [if_neg Bool.false_ne_true] at q2 ⊢; exact hD.nx S2 H2 σ' γ1 μ2 (l1.trans l2) (e1.mono l2) r2 q2
    | true =>
      rw [if_pos rfl] at q2 ⊢
      refine ⟨fun σ' H' => ∃ m', m' < m ∧ ∃ S' γ' μ', Le S S' ∧ Env X.K S' σ' γ' ∧ R X.K S' H' μ' F ∧ I m' γ' μ', fun _ _ z => z, ?_⟩
      refine ⟨S2, γ1, μ2, F, Ξ, _, e1.mono l2, r2, hX.mono (l1.trans l2), q2, ⟨fun S5 H5 σ5 γ5 μ5 l5 e5 r5 ⟨m', hm, q5⟩ => ⟨m', hm, S5, γ5, μ5, l1.trans (l2.trans l5), e5, r5, q5⟩, fun S5 H5 v d μ5 l5 r5 a5 q5 => hD.rt S5 H5 v d μ5 (l1.trans (l2.trans l5)) r5 a5 q5,
        fun S5 H5 σ5 γ5 μ5 l5 e5 r5 q5 => hD.nx S5 H5 σ5 γ5 μ5 (l1.trans (l2.trans l5)) e5 r5 q5, fun S5 H5 σ5 γ5 μ5 l5 e5 r5 ⟨m', hm, q5⟩ => ⟨m', hm, S5, γ5, μ5, l1.trans (l2.trans l5), e5, r5, q5⟩⟩⟩
end
end DL

/-! # DL7: comprehensions, defs, own operators -/
namespace DL
open PySem L2

abbrev W0 : WX := fun _ _ _ _ => False
abbrev X0 : XD := fun _ _ _ _ => False
theorem xok0 {K : PySem.W.Frag} {S : Hp} {F : Mu} : XOk K S F W0 X0 := fun _ _ _ _ _ _ _ _ _ _ _ _ h => h
def wipeG (γ : Ga) : List Nat → Ga
  | [] => γ
  | v :: vs => (wipeG γ vs).set v none
theorem env_wipe {K : PySem.W.Frag} {S : Hp} {σ : L2.St} {γ : Ga} (h : Env K S σ γ) : ∀ vs : List Nat, Env K S (wipe σ vs) (wipeG γ vs)
  | [] => h
  | v :: vs => (env_wipe h vs).clear
theorem wipe_get {σ : L2.St} {j : Nat} : ∀ {vs : List Nat}, (wipe σ vs)[j]? = if j ∈ vs ∧ j < σ.length then some none else σ[j]?
  | [] => by simp [wipe]
  | v :: vs => by
    unfold wipe
    rw [List.getElem?_set, wipe_length, wipe_get]
    by_cases h : v = j
    · subst h
      by_cases hl : v < σ.length
      · simp [hl]
      · simp [hl]
    · have h' : ¬ j = v := fun e => h e.symm
      simp [h, h']
theorem wipe_setIn {σ σ' : L2.St} {vs : List Nat} (hl : σ'.length = σ.length) (h : ∀ j, j ∉ vs → σ'[j]? = σ[j]?) : wipe σ' vs = wipe σ vs := by
  refine List.ext_getElem? fun j => ?_
  rw [wipe_get, wipe_get, hl]
  by_cases hj : j ∈ vs
  · by_cases z : j < σ.length
    · rw [if_pos ⟨hj, z⟩, if_pos ⟨hj, z⟩]
    · rw [if_neg (fun q => z q.2), if_neg (fun q => z q.2), List.getElem?_eq_none (by rw [hl]; exact Nat.le_of_not_lt z), List.getElem?_eq_none (Nat.le_of_not_lt z)]
  · rw [if_neg (fun q => hj q.1), if_neg (fun q => hj q.1)]; exact h j hj
/-- a comprehension's target: its names alone are stored -/
abbrev TDC := D → Ga → (Ga → Prop) → Prop
structure CompT (K : PySem.W.Frag) (vs : List Nat) (g : TG) (w : TDC) : Prop where
  go : ∀ (S H : Hp) (μ F : Mu) (σ : L2.St) (γ : Ga) (v : V) (d : D) (Φ : Ga → Prop) (k : L2.St → Hp → Prop), Env K S σ γ → R K S H μ F → At K S v d → w d γ Φ → (∀ σ' γ', Env K S σ' γ' → wipe σ' vs = wipe σ vs → Φ γ' → k σ' H) → g v σ H k
def cNm (i : Nat) : TDC := fun d γ Φ => Φ (γ.set i (some d))
theorem ct_name {K : PySem.W.Frag} (i : Nat) {vs : List Nat} (hi : i ∈ vs := by decide) : CompT K vs (gName i) (cNm i) :=
  ⟨fun S H μ F σ γ v d Φ k hE hR ha hw hk => hk _ _ (hE.set ha) (wipe_setIn (by simp) fun j hj => by rw [List.getElem?_set_ne]; exact fun e => hj (e ▸ hi)) hw⟩
/-- several names -/
def setAll : Ga → List Nat → List D → Ga
  | γ, i :: is, d :: ds => setAll (γ.set i (some d)) is ds
  | γ, _, _ => γ
def gNms : List Nat → TGs
  | [] => L2.gNil
  | i :: is => L2.gCons (gName i) (gNms is)
theorem gnms_go {K : PySem.W.Frag} {S H : Hp} {vs : List Nat} : ∀ {is : List Nat} {us : List V} {ds : List D} {σ : L2.St} {γ : Ga} {k : L2.St → Hp → Prop}, (∀ i ∈ is, i ∈ vs) → us.length = is.length → AtL K S us ds → Env K S σ γ → (∀ σ', Env K S σ' (setAll γ is ds) → wipe σ' vs = wipe σ vs → k σ' H) → gNms is us σ H k
  | [], us, ds, σ, γ, k, _, hl, a, hE, hk => by
    cases us with
    | nil => cases ds with
      | nil => exact ⟨rfl, hk σ hE rfl⟩
      | cons d ds => have := a.1; simp at this
    | cons u us => simp at hl
  | i :: is, us, ds, σ, γ, k, hi, hl, a, hE, hk => by
    cases us with
    | nil => simp at hl
    | cons u us => cases ds with
      | nil => have := a.1; simp at this
      | cons d ds =>
        refine ⟨u, us, rfl, gnms_go (is := is) (fun j hj => hi j (List.mem_cons_of_mem _ hj)) (by simpa using hl) a.tail (hE.set a.head) fun σ' e' w' => hk σ' e' (w'.trans (wipe_setIn (by simp) fun j hj => ?_))⟩
        rw [List.getElem?_set_ne]
        exact fun e => hj (e ▸ hi i List.mem_cons_self)
def cTp (is : List Nat) : TDC := fun d γ Φ => ∃ ds, tupD d = some ds ∧ ds.length = is.length ∧ Φ (setAll γ is ds)
theorem ct_tup {K : PySem.W.Frag} (is : List Nat) {vs : List Nat} (hi : ∀ i ∈ is, i ∈ vs := by decide) : CompT K vs (gTup K is.length (gNms is)) (cTp is) :=
  ⟨fun S H μ F σ γ v d Φ k hE hR ha ⟨ds, h1, h2, hw⟩ hk => by
    obtain ⟨p, us, rfl, hs, hl⟩ := tup_at hR ha h1
    exact ⟨p, us, rfl, hs, by rw [hl.1]; exact h2, gnms_go hi (by rw [hl.1]; exact h2) hl hE fun σ' e' w' => hk σ' _ e' w' hw⟩⟩
section
variable {X : Cx} {W : WX}
def dYes : TDT := fun _ μ _ Φ => Φ true μ
theorem ts_nil : PTs X [] (tDT X.K W dYes) := ⟨fun pins s σ H Q I ⟨S, γ, μ, F, Ξ, Φ, hE, hR, hX, hw, hq⟩ => (pts_nil (X := X)).run pins s σ H Q I (hq S H true μ (Le.refl S) hR hw)⟩
theorem ts_one {c : Expr} {t : TDT} (h : PT X c (tDT X.K W t)) : PTs X [c] (tDT X.K W t) := pts_one h
/-- the turns of a comprehension; I: behind i turns the list holds acc -/
def dLcT (wg : TDC) (wt : TDT) (we : TD) (vs : List Nat) (γ : Ga) (ds : List D) (G : Mu → Prop) (μ1 : Mu) (Φ : List D → Mu → Prop) : Prop := ∃ I : Nat → List D → Mu → Prop, I 0 [] μ1 ∧ (∀ i acc μ', I i acc μ' → G μ') ∧
  (∀ i d acc μ', ds[i]? = some d → I i acc μ' → wg d (wipeG γ vs) fun γ2 => wt γ2 μ' X0 fun b μ3 => if b = true then we γ2 μ3 X0 fun e μ4 => acc.length < sizeLine ∧ I (i + 1) (acc ++ [e]) μ4 else I (i + 1) acc μ3) ∧ ∀ acc μ', I ds.length acc μ' → Φ acc μ'
theorem lst_mat {K : PySem.W.Frag} {S : Hp} {o : HO} {ds : List D} (h : MAt K S o (.lst ds)) : ∃ vs, o = .lst vs ∧ AtL K S vs ds := by
  cases o <;> first | exact h.elim | exact ⟨_, rfl, h⟩
theorem lc_go {K : PySem.W.Frag} {S1 H1 : Hp} {μ1 F : Mu} {J : It} {ds : List D} {G : Mu → Prop} {g : TG} {wg : TDC} {wt : TDT} {we : TD} {vs : List Nat} {σ : L2.St} {γ : Ga} {Dd : Addr} {Φ : List D → Mu → Prop} {Q : Hp → Prop}
    (ct : CompT K vs g wg) (hE : Env K S1 σ γ) (r1 : R K S1 H1 μ1 F) (it : ItOk K S1 G J ds) (hD : H1 Dd = none) (h : dLcT wg wt we vs γ ds G μ1 Φ)
    (fin : ∀ S' H' vs acc μ', Le S1 S' → R K S' H' μ' (updM F Dd (.lst acc)) → H' Dd = some (.lst vs) → AtL K S' vs acc → Φ acc μ' → Q H') :
    ∃ Wn : Nat → Nat → Hp → Prop, (∃ m, Wn 0 m (upd H1 Dd (.lst []))) ∧ ∀ i m H, Wn i m H → (J.stop i H ∧ Q H) ∨ (J.go i H ∧ ∃ Nx : Hp → Prop, (∀ H', Nx H' → ∃ m', m' < m ∧ Wn (i + 1) m' H') ∧ ∀ x H', J.yld i H x H' → g x (wipe σ vs) H' fun σ2 H2 => wipe σ2 vs = wipe σ vs ∧ tDT K W0 wt σ2 H2 fun b H3 =>
      if b = true then tD K W0 we σ2 H3 fun y H4 => ∃ acc, H4 Dd = some (.lst acc) ∧ acc.length < sizeLine ∧ Nx (upd H4 Dd (.lst (acc ++ [y]))) else Nx H3) := by
  obtain ⟨I, i0, ig, is, ie⟩ := h
  refine ⟨fun i m H => m = ds.length - i ∧ i ≤ ds.length ∧ ∃ S' acc μ', Le S1 S' ∧ R K S' H μ' (updM F Dd (.lst acc)) ∧ I i acc μ', ⟨ds.length, by simp, Nat.zero_le _, S1, [], μ1, Le.refl S1, r1.newR hD (m := .lst []) .nil, i0⟩, ?_⟩
  rintro i m H ⟨rfl, hi, S2, acc, μ2, l2, r2, q2⟩
  have io := it S2 H μ2 _ i l2 r2 (ig i acc μ2 q2)
  by_cases hlt : i < ds.length
  · have hd : ds[i]? = some ds[i] := List.getElem?_eq_getElem hlt
    obtain ⟨go, yl⟩ := io.1 _ hd
    refine .inr ⟨go, fun H' => ∃ S' acc μ', Le S1 S' ∧ R K S' H' μ' (updM F Dd (.lst acc)) ∧ I (i + 1) acc μ', fun H3 z => ⟨ds.length - (i + 1), by omega, rfl, hlt, z⟩, fun x H3 y => ?_⟩
    obtain ⟨S3, l3, r3, a3⟩ := yl x H3 y
    have ww : wipe (wipe σ vs) vs = wipe σ vs := wipe_setIn (wipe_length σ vs) fun j hj => by rw [wipe_get, if_neg (fun q => hj q.1)]
    refine ct.go S3 H3 μ2 _ (wipe σ vs) (wipeG γ vs) x ds[i] _ _ (env_wipe (hE.mono (l2.trans l3)) vs) r3 a3 (is i _ acc μ2 hd q2) fun σ' γ' e' w' q' => ⟨w'.trans ww, ?_⟩
    refine ⟨S3, γ', μ2, _, X0, _, e', r3, xok0, q', fun S4 H4 b μ4 l4 r4 q4 => ?_⟩
    cases b with
    | false => rw [if_neg Bool.false_ne_true] at q4 ⊢; exact ⟨S4, acc, μ4, l2.trans (l3.trans l4), r4, q4⟩
    | true =>
      rw [if_pos rfl] at q4 ⊢
      refine ⟨S4, γ', μ4, _, X0, _, e'.mono l4, r4, xok0, q4, fun S5 H5 v d μ5 l5 r5 a5 ⟨hz, q5⟩ => ?_⟩
      obtain ⟨_, _, o, ho, hm⟩ := r5.frm Dd _ updM_same
      obtain ⟨zs, rfl, hm⟩ := lst_mat hm
      have z := r5.writeF (o := .lst (zs ++ [v])) (m := .lst (acc ++ [d])) updM_same (hm.append (.cons a5 .nil))
      rw [updM_updM] at z
      exact ⟨zs, ho, by rw [hm.1]; exact hz, S5, acc ++ [d], μ5, l2.trans (l3.trans (l4.trans l5)), z, q5⟩
  · have e : i = ds.length := by omega
    subst e
    obtain ⟨_, _, o, ho, hm⟩ := r2.frm Dd _ updM_same
    obtain ⟨zs, rfl, hm⟩ := lst_mat hm
    exact .inl ⟨io.2 (List.getElem?_eq_none (Nat.le_refl _)), fin S2 H zs acc μ2 l2 r2 ho hm (ie acc μ2 q2)⟩
def dLc (wi : TDI) (wg : TDC) (wt : TDT) (we : TD) (vs : List Nat) : TD := fun γ μ Ξ Φ => wi γ μ Ξ fun ds G μ1 => dLcT wg wt we vs γ ds G μ1 fun acc μ' => Φ (.lst acc) μ'
def dLcM (wi : TDI) (wg : TDC) (wt : TDT) (we : TD) (vs : List Nat) : TD := fun γ μ Ξ Φ => wi γ μ Ξ fun ds G μ1 => dLcT wg wt we vs γ ds G μ1 fun acc μ' => ∀ p, μ' p = none → Φ (.adr p) (updM μ' p (.lst acc))
theorem lc_end {K : PySem.W.Frag} {S H : Hp} {μ F : Mu} {p : Addr} {vs : List V} {acc : List D} (hF : F p = none) (r : R K S H μ (updM F p (.lst acc))) (h : H p = some (.lst vs)) (a : AtL K S vs acc) : ∃ S', Le S S' ∧ R K S' H μ F ∧ At K S' (.ref p) (.lst acc) := by
  obtain ⟨h1, h2, _⟩ := r.frm p _ updM_same
  have z := r.freezeF h h2 h1
  rw [delM_updM hF] at z
  exact ⟨_, Le.new h2, z, atL_lst upd_same (a.mono (Le.new h2))⟩
theorem R.toM {K : PySem.W.Frag} {S H : Hp} {μ F : Mu} {p : Addr} {m : MO} (hF : F p = none) (r : R K S H μ (updM F p m)) : R K S H (updM μ p m) F := by
  obtain ⟨h1, h2, o, h3, h4⟩ := r.frm p m updM_same
  refine ⟨r.imm, fun a m' e => ?_, fun a m' e => ?_⟩
  · by_cases ha : a = p
    · subst ha; rw [updM_same] at e; cases e; exact ⟨h2, o, h3, h4⟩
    · rw [updM_ne ha] at e; exact r.sto a m' e
  · have ha : a ≠ p := fun z => by subst z; rw [hF] at e; cases e
    obtain ⟨q1, q2⟩ := r.frm a m' (by rw [updM_ne ha]; exact e)
    exact ⟨by rw [updM_ne ha]; exact q1, q2⟩
section
variable {elt tg iter : Expr} {ifs : List Expr} {scope : Scope} {own : List (Str × Nat)} {pos : Pos} {wi : TDI} {g : TG} {wg : TDC} {wt : TDT} {we : TD}
theorem lc_read {Wx : WX} {σ : L2.St} {H : Hp} {Q : VK} {vs : List Nat} (ct : CompT X.K vs g wg) (h : tD X.K Wx (dLc wi wg wt we vs) σ H Q) : tLc (tDI X.K Wx wi) g (tDT X.K W0 wt) (tD X.K W0 we) vs σ H Q := by
  obtain ⟨S, γ, μ, F, Ξ, Φ, hE, hR, hX, hw, hq⟩ := h
  refine ⟨S, γ, μ, F, Ξ, _, hE, hR, hX, hw, fun S1 H1 J ds G μ1 l1 r1 it q1 => fun Dd hD => ?_⟩
  refine lc_go ct (hE.mono l1) r1 it hD q1 fun S2 H2 vs acc μ2 l2 r2 h2 a2 q2 => ?_
  obtain ⟨S3, l3, r3, a3⟩ := lc_end (r1.freeF hD) r2 h2 a2
  exact hq S3 H2 _ _ μ2 (l1.trans (l2.trans l3)) r3 a3 q2
theorem lc_readM {Wx : WX} {σ : L2.St} {H : Hp} {Q : VK} {vs : List Nat} (ct : CompT X.K vs g wg) (h : tD X.K Wx (dLcM wi wg wt we vs) σ H Q) : tLc (tDI X.K Wx wi) g (tDT X.K W0 wt) (tD X.K W0 we) vs σ H Q := by
  obtain ⟨S, γ, μ, F, Ξ, Φ, hE, hR, hX, hw, hq⟩ := h
  refine ⟨S, γ, μ, F, Ξ, _, hE, hR, hX, hw, fun S1 H1 J ds G μ1 l1 r1 it q1 => fun Dd hD => ?_⟩
  refine lc_go ct (hE.mono l1) r1 it hD q1 fun S2 H2 vs acc μ2 l2 r2 h2 a2 q2 => ?_
  exact hq S2 H2 _ _ _ (l1.trans l2) (r2.toM (r1.freeF hD)) (.adr Dd) (q2 Dd (r2.frm Dd _ updM_same).1)
theorem e_lc (hc : X.calm = true) (hN : X.N.Nodup) (ct : CompT X.K (own.map (·.2)) g wg) (hi : PI X tg iter (tDI X.K W wi)) (ok : BlkOk X.N X.env.scope scope own)
    (hg : ∀ (s : Shared) (H : Hp) (C : Addr) (cl : List (Str × Addr)) (fp : List Addr), PG (X.blk s H scope (compEnvC scope cl C X.env) fp) tg g) (ht : ∀ (s : Shared) (H : Hp) (C : Addr) (cl : List (Str × Addr)) (fp : List Addr), PTs (X.blk s H scope (compEnvC scope cl C X.env) fp) ifs (tDT X.K W0 wt))
    (he : ∀ (s : Shared) (H : Hp) (C : Addr) (cl : List (Str × Addr)) (fp : List Addr), PE (X.blk s H scope (compEnvC scope cl C X.env) fp) elt (tD X.K W0 we)) (hs : ∀ x, foldedSetIterable iter X.env x = pure x := by intro _; rfl) :
    PE X (.ListComp elt [⟨tg, iter, ifs, 0⟩] scope pos) (tD X.K W (dLc wi wg wt we (own.map (·.2)))) :=
  pe_imp (pe_lc hc hN hi ok hg ht he hs) fun _ _ _ h => lc_read ct h
theorem e_lcM (hc : X.calm = true) (hN : X.N.Nodup) (ct : CompT X.K (own.map (·.2)) g wg) (hi : PI X tg iter (tDI X.K W wi)) (ok : BlkOk X.N X.env.scope scope own)
    (hg : ∀ (s : Shared) (H : Hp) (C : Addr) (cl : List (Str × Addr)) (fp : List Addr), PG (X.blk s H scope (compEnvC scope cl C X.env) fp) tg g) (ht : ∀ (s : Shared) (H : Hp) (C : Addr) (cl : List (Str × Addr)) (fp : List Addr), PTs (X.blk s H scope (compEnvC scope cl C X.env) fp) ifs (tDT X.K W0 wt))
    (he : ∀ (s : Shared) (H : Hp) (C : Addr) (cl : List (Str × Addr)) (fp : List Addr), PE (X.blk s H scope (compEnvC scope cl C X.env) fp) elt (tD X.K W0 we)) (hs : ∀ x, foldedSetIterable iter X.env x = pure x := by intro _; rfl) :
    PE X (.ListComp elt [⟨tg, iter, ifs, 0⟩] scope pos) (tD X.K W (dLcM wi wg wt we (own.map (·.2)))) :=
  pe_imp (pe_lc hc hN hi ok hg ht he hs) fun _ _ _ h => lc_readM ct h
/-- y = [..] -/
theorem s_setLc (i : Nat) {y : Str} {py spos : Pos} (hc : X.calm = true) (hN : X.N.Nodup) (ct : CompT X.K (own.map (·.2)) g wg) (hi : PI X tg iter (tDI X.K W wi)) (ok : BlkOk X.N X.env.scope scope own)
    (hg : ∀ (s : Shared) (H : Hp) (C : Addr) (cl : List (Str × Addr)) (fp : List Addr), PG (X.blk s H scope (compEnvC scope cl C X.env) fp) tg g) (ht : ∀ (s : Shared) (H : Hp) (C : Addr) (cl : List (Str × Addr)) (fp : List Addr), PTs (X.blk s H scope (compEnvC scope cl C X.env) fp) ifs (tDT X.K W0 wt))
    (he : ∀ (s : Shared) (H : Hp) (C : Addr) (cl : List (Str × Addr)) (fp : List Addr), PE (X.blk s H scope (compEnvC scope cl C X.env) fp) elt (tD X.K W0 we))
    (hsw : swapsWith (.ListComp elt [⟨tg, iter, ifs, 0⟩] scope pos) (some (.Name y py)) spos.line X.env = pure true := by exact sw_true rfl rfl rfl (by decide +kernel)) (hy : X.N[i]? = some y := by rfl) (hyl : X.env.scope.names.lookup y = some .local := by rfl) (hs : ∀ x, foldedSetIterable iter X.env x = pure x := by intro _; rfl) :
    PS X (.Assign [.Name y py] (.ListComp elt [⟨tg, iter, ifs, 0⟩] scope pos) spos) (tDS X.K W (dAsg (dLc wi wg wt we (own.map (·.2))) (gNm i))) :=
  ps_imp (ps_setLc hc hN hy hyl hsw hi ok hg ht he hs) fun D σ H ⟨S, γ, μ, F, Ξ, DD, hE, hR, hX, hw, hD⟩ => lc_read ct ⟨S, γ, μ, F, Ξ, _, hE, hR, hX, hw, fun S1 H1 v d μ1 l1 r1 a1 q1 => hD.nx S1 H1 _ _ μ1 l1 ((hE.mono l1).set a1) r1 q1⟩
theorem s_setLcM (i : Nat) {y : Str} {py spos : Pos} (hc : X.calm = true) (hN : X.N.Nodup) (ct : CompT X.K (own.map (·.2)) g wg) (hi : PI X tg iter (tDI X.K W wi)) (ok : BlkOk X.N X.env.scope scope own)
    (hg : ∀ (s : Shared) (H : Hp) (C : Addr) (cl : List (Str × Addr)) (fp : List Addr), PG (X.blk s H scope (compEnvC scope cl C X.env) fp) tg g) (ht : ∀ (s : Shared) (H : Hp) (C : Addr) (cl : List (Str × Addr)) (fp : List Addr), PTs (X.blk s H scope (compEnvC scope cl C X.env) fp) ifs (tDT X.K W0 wt))
    (he : ∀ (s : Shared) (H : Hp) (C : Addr) (cl : List (Str × Addr)) (fp : List Addr), PE (X.blk s H scope (compEnvC scope cl C X.env) fp) elt (tD X.K W0 we))
    (hsw : swapsWith (.ListComp elt [⟨tg, iter, ifs, 0⟩] scope pos) (some (.Name y py)) spos.line X.env = pure true := by exact sw_true rfl rfl rfl (by decide +kernel)) (hy : X.N[i]? = some y := by rfl) (hyl : X.env.scope.names.lookup y = some .local := by rfl) (hs : ∀ x, foldedSetIterable iter X.env x = pure x := by intro _; rfl) :
    PS X (.Assign [.Name y py] (.ListComp elt [⟨tg, iter, ifs, 0⟩] scope pos) spos) (tDS X.K W (dAsg (dLcM wi wg wt we (own.map (·.2))) (gNm i))) :=
  ps_imp (ps_setLc hc hN hy hyl hsw hi ok hg ht he hs) fun D σ H ⟨S, γ, μ, F, Ξ, DD, hE, hR, hX, hw, hD⟩ => lc_readM ct ⟨S, γ, μ, F, Ξ, _, hE, hR, hX, hw, fun S1 H1 v d μ1 l1 r1 a1 q1 => hD.nx S1 H1 _ _ μ1 l1 ((hE.mono l1).set a1) r1 q1⟩
end
end

/-! ### defs -/
def startG (N : List Str) (ds : List D) : Ga := ds.map some ++ List.replicate (N.length - ds.length) none
section
variable {P : Program} {w : World} {K : PySem.W.Frag} {mg : Str → Option Value} {base : Heap}
theorem eok_def {S : Hp} {F : Mu} {Q : VK} {Φ : KD} (h : ∀ S' H' v d μ', Le S S' → R K S' H' μ' F → At K S' v d → Φ d μ' → Q v H') : EOk K S F { nx := fun _ μ' => Φ .non μ', rt := Φ } { nx := fun _ H' => Q .non H', rt := Q } :=
  ⟨fun S' H' σ γ μ l e r q => h S' H' .non .non μ l r .non q, h, fun _ _ _ _ _ _ _ _ z => z, fun _ _ _ _ _ _ _ _ z => z⟩
theorem fnR_of {k : Nat} {f : Addr} {fd : FuncData} {ps : List Str} {sp : Sp} (G : FnOk P w K mg base (L2.CX P w) k f fd ps sp) (hb : Binds K fd ps []) : FnR P w K mg base (L2.CX P w) k f sp := fun A outer s H us vs Q E hr e0 r h => by
  have hl : us.length = ps.length := by rw [← r.length]; exact G.len _ _ _ _ h
  have kin : K.In s.heap := e0.mod.kin.keeps fun b o e => (e0.bs b o e).1
  have b := hb s us kin (by rw [List.append_nil]; exact hl)
  rw [List.append_nil] at b
  exact G.run A outer s H ⟨us, []⟩ us vs Q E hr e0 b r h
/-- THE RULE for a def -/
theorem fn_D {x qual : Str} {st : Stmt} {f : Addr} {fd : FuncData} {N ps : List Str} {k : Nat} {t : TF} (G : Fun K x qual st f fd) (hb : Binds K fd ps []) (S : FnScope N ps (defScope st)) (hl : ∀ ds μ Ξ Φ, t ds μ Ξ Φ → ds.length = ps.length)
    (hbody : ∀ (cdv : Value) (A : Around) (outer : List PySem.Env) (s : Shared) (H : Hp) (E : XK), Room k (A.deeper (PyProof.Rows.envOfC qual (defScope st) s.heap.objs.size f cdv)) →
      ∃ WB, PSs (cxOf (L2.CX P w) P w K mg base N qual (defScope st) f cdv A outer s H E) (defBody st) (tDS K (fun cls d _ H => E cls d H) WB) ∧ ∀ ds μ Ξ Φ, t ds μ Ξ Φ → WB { nx := fun _ μ' => Φ .non μ', rt := Φ } (startG N ds) μ (fun _ => Ξ)) : FnD P w K mg base (k + 1) f t := by
  refine fnR_of (ps := ps) (fd := fd) (G.okX S (fun vs H Q E h => ?_) fun cdv A outer s H vs Q E hr h => ?_) hb
  · obtain ⟨S, ds, μ, F, Ξ, Φ, a, r, h, _⟩ := h
    rw [a.1]; exact hl ds μ Ξ Φ h
  · obtain ⟨S, ds, μ, F, Ξ, Φ, a, r, h, hq, hx⟩ := h
    obtain ⟨WB, hp, hw⟩ := hbody cdv A outer s H E hr
    exact ⟨_, hp, S, startG N ds, μ, F, fun _ => Ξ, _, Env.start a N, r, fun S' H' σ γ cls xd fs μ' l e r' x q => hx S' H' cls xd fs μ' l r' x q, hw ds μ Ξ Φ h, eok_def hq⟩
/-- .. with a starred parameter behind the n named ones -/
def wStar (n : Nat) (t : TF) : TF := fun ds μ Ξ Φ => ∃ ws rest, ds = ws ++ rest ∧ ws.length = n ∧ rest.length ≤ sizeLine ∧ t (ws ++ [.tup rest]) μ Ξ Φ
theorem fn_DS {name qual pv : Str} {st : Stmt} {f : Addr} {N ps : List Str} {k : Nat} {t : TF} {oc : Value} {od an : Option Addr} {osl : Array (Option Value)} {kV doc pm cdv ct : Value}
    (lk : K.lookup f = some ⟨oc, od, .func (PySem.W.fnOf name qual (defArgs st) (defBody st) (defScope st) .none kV doc pm an cdv ct), osl⟩) (hcd : PySem.W.codeIn K cdv qual = true) (S : FnScope N (ps ++ [pv]) (defScope st))
    (hb : ∀ us rest : List Value, us.length = ps.length → bindArgs (PySem.W.fnOf name qual (defArgs st) (defBody st) (defScope st) .none kV doc pm an cdv ct) ⟨us ++ rest, []⟩ = (newTuple rest >>= fun t => pure (ps.zip us ++ [(pv, t)])))
    (hbody : ∀ (A : Around) (outer : List PySem.Env) (s : Shared) (H : Hp) (E : XK), Room k (A.deeper (PyProof.Rows.envOfC qual (defScope st) s.heap.objs.size f cdv)) →
      ∃ WB, PSs (cxOf (L2.CX P w) P w K mg base N qual (defScope st) f cdv A outer s H E) (defBody st) (tDS K (fun cls d _ H => E cls d H) WB) ∧ ∀ ds μ Ξ Φ, t ds μ Ξ Φ → WB { nx := fun _ μ' => Φ .non μ', rt := Φ } (startG N ds) μ (fun _ => Ξ)) : FnD P w K mg base (k + 1) f (wStar ps.length t) := by
  refine (StX.fn_star (sp := SpD K t) (k := k) lk hcd S StX.cxUp hb fun A outer s H vs Q E hr h => ?_).imp fun vs H Q E h => ?_
  · obtain ⟨S, ds, μ, F, Ξ, Φ, a, r, h, hq, hx⟩ := h
    obtain ⟨WB, hp, hw⟩ := hbody A outer s H E hr
    exact ⟨_, hp, S, startG N ds, μ, F, fun _ => Ξ, _, Env.start a N, r, fun S' H' σ γ cls xd fs μ' l e r' x q => hx S' H' cls xd fs μ' l r' x q, hw ds μ Ξ Φ h, eok_def hq⟩
  · obtain ⟨S, ds, μ, F, Ξ, Φ, a, r, ⟨ws, rest, rfl, hn, hz, h⟩, hq, hx⟩ := h
    have h1 : vs = vs.take ws.length ++ vs.drop ws.length := (List.take_append_drop _ _).symm
    have a1 : AtL K S (vs.take ws.length) ws := by
      have z := a.cut 0 ws.length
      simpa using z
    have a2 : AtL K S (vs.drop ws.length) rest := by
      have z := a.cut ws.length rest.length
      have e1 : (vs.drop ws.length).take rest.length = vs.drop ws.length := List.take_of_length_le (by rw [List.length_drop, a.1, List.length_append]; omega)
      rw [e1] at z
      simpa using z
    refine ⟨_, _, h1, by rw [a1.1]; exact hn, by rw [a2.1]; exact hz, fun p hp => ?_⟩
    have l := Le.new (o := .tup (vs.drop ws.length)) (r.free hp)
    exact ⟨_, _, μ, F, Ξ, Φ, (a1.mono l).append (.cons (atL_tup upd_same (a2.mono l)) .nil), r.new hp, h, fun S' H' v d μ' l' => hq S' H' v d μ' (l.trans l'), fun S' H' cls xd fs μ' l' => hx S' H' cls xd fs μ' (l.trans l')⟩
theorem FnD.mono {j k : Nat} {f : Addr} {t : TF} (G : FnD P w K mg base j f t) (h : j ≤ k) : FnD P w K mg base k f t := FnR.mono G h
end
end DL

/-! # DL8: own operators at the level of data; isinstance; raise, try -/
namespace DL
open PySem L2

/-- facts of a class of the text -/
structure OwnC (K : PySem.W.Frag) (C : Addr) : Prop where
  cl : Cls K C
  ha : PySem.W.findIn K (.ref C) "__class__" = some (some (.builtin "object.__class__"))
  hn : PySem.W.specialIn K (.builtin "object.__class__") "__get__" = some (some (.builtin "getset_descriptor.__get__"))
  htk : PySem.W.takesIn K (.builtin "object.__class__") = some true
  hm : PySem.W.mroIn K C (.type "object") = some true
abbrev F0 : XF := fun _ _ _ => False
section
variable {X : Cx} {W : WX} {K : PySem.W.Frag} {C : Addr} {w : TF}
theorem insAt_of {S H : Hp} {μ F : Mu} {v : V} {d : D} {fs : List (Str × D)} (r : R K S H μ F) (a : At K S v d) (h : insD μ d = some (C, fs)) : ∃ p, v = .ref p ∧ InsAt H C p := by
  obtain ⟨p, dx, us, e, hp, _⟩ := ins_d r a h
  exact ⟨p, e, dx, us, hp⟩
theorem spd_of {S H : Hp} {μ F : Mu} {vs : List V} {ds : List D} {Φ : KD} {Q : VK} (r : R K S H μ F) (a : AtL K S vs ds) (h : w ds μ F0 Φ) (k : ∀ S' H' v d' μ', Le S S' → R K S' H' μ' F → At K S' v d' → Φ d' μ' → Q v H') : SpD K w vs H Q E0 :=
  ⟨S, ds, μ, F, F0, Φ, a, r, h, k, fun _ _ _ _ _ _ _ _ _ z => z⟩
def oOwnB (C : Addr) (w : TF) : OD := fun x y μ Φ => (∃ fs, insD μ x = some (C, fs)) ∧ (∃ gs, insD μ y = some (C, gs)) ∧ w [x, y] μ F0 Φ
theorem od_ownB : OpD K (rOwnB C (SpD K w)) (oOwnB C w) := by
  intro S H μ F x y d e Φ Q r ax ay ⟨⟨fs, h1⟩, ⟨gs, h2⟩, q⟩ k
  obtain ⟨p, rfl, i1⟩ := insAt_of r ax h1
  obtain ⟨p2, rfl, i2⟩ := insAt_of r ay h2
  exact ⟨p, p2, rfl, rfl, i1, i2, spd_of r (.cons ax (.cons ay .nil)) q k⟩
def oOwnI (C : Addr) (w : TF) : OD := fun x y μ Φ => (∃ fs, insD μ x = some (C, fs)) ∧ w [x, y] μ F0 Φ
theorem od_ownI : OpD K (rOwnI C (SpD K w)) (oOwnI C w) := by
  intro S H μ F x y d e Φ Q r ax ay ⟨⟨fs, h1⟩, q⟩ k
  obtain ⟨p, rfl, i1⟩ := insAt_of r ax h1
  exact ⟨p, rfl, i1, spd_of r (.cons ax (.cons ay .nil)) q k⟩
def oOwnIn (C : Addr) (w : TF) (neg : Bool) : OD := fun y x μ Φ => (∃ fs, insD μ x = some (C, fs)) ∧ w [x, y] μ F0 fun d μ' => ∃ b, d = .bl b ∧ Φ (.bl (if neg then !b else b)) μ'
theorem od_ownIn {neg : Bool} : OpD K (rOwnIn C (SpD K w) neg) (oOwnIn C w neg) := by
  intro S H μ F y x e d Φ Q r ay ax ⟨⟨fs, h1⟩, q⟩ k
  obtain ⟨p, rfl, i1⟩ := insAt_of r ax h1
  exact ⟨p, rfl, i1, spd_of r (.cons ax (.cons ay .nil)) q fun S' H' v d' μ' l r' a ⟨b, e1, q1⟩ => by subst e1; exact ⟨b, a.bl_inv, k S' H' _ _ μ' l r' (.bl _) q1⟩⟩
def bOwnLen (C : Addr) (w : TF) : BF := fun ds μ Φ => ∃ d fs, ds = [d] ∧ insD μ d = some (C, fs) ∧ w [d] μ F0 fun x μ' => ∃ i, x = .int i ∧ 0 ≤ i ∧ i < 2 ^ 63 ∧ Φ x μ'
theorem bd_ownLen : BiD K (rOwnLen C (SpD K w)) (bOwnLen C w) := by
  rintro S H μ F vs ds Φ Q r a ⟨d, fs, rfl, h, q⟩ k
  obtain ⟨v, rfl, av⟩ := atL1 a
  obtain ⟨p, rfl, i1⟩ := insAt_of r av h
  exact ⟨p, rfl, i1, spd_of r (.cons av .nil) q fun S' H' v d' μ' l r' a ⟨i, e1, h0, h1, q1⟩ => by subst e1; exact ⟨i, a.int_inv, h0, h1, k S' H' v _ μ' l r' a q1⟩⟩
/-! ### one-line methods -/
/-- return iter(self.f) -/
def spIterF (K : PySem.W.Frag) (C : Addr) (fn : Str) : Sp := fun vs H Q _ => ∃ a dx fs l xs, vs = [.ref a] ∧ H a = some (.ins C dx fs) ∧ fs.lookup fn = some (.ref l) ∧ SqL K H l xs ∧ ∀ it, H it = none → Q (.ref it) (upd H it (ItO l it 0))
/-- return len(self.f) -/
def spLenF (K : PySem.W.Frag) (C : Addr) (fn : Str) : Sp := fun vs H Q _ => ∃ a dx fs l xs, vs = [.ref a] ∧ H a = some (.ins C dx fs) ∧ fs.lookup fn = some (.ref l) ∧ SqL K H l xs ∧ Q (.int xs.length) H
section
variable {P : Program} {w' : World} {mg : Str → Option Value} {base : Heap} {x qual fn : Str} {st : Stmt} {f : Addr} {fd : FuncData} {p1 p2 p3 p4 p5 : Pos}
theorem fn_iterF (G : Fun K x qual st f fd) (hb : Binds K fd ["self"] []) (S : FnScope ["self"] ["self"] (defScope st)) (cl : Cls K C) (na : NoAttr K C fn) (hi : mg "iter" = none)
    (hs : defBody st = [.Return (some (.Call (.Name "iter" p1) [.Attribute (.Name "self" p2) fn p3] [] p4)) p5] := by rfl) (hg : (defScope st).names.lookup ("iter" : Str) = some NameKind.globalImplicit := by decide +kernel) (hv : (defScope st).names.lookup ("self" : Str) = some NameKind.local := by decide +kernel) :
    FnR P w' K mg base (L2.CX P w') 1 f (spIterF K C fn) := by
  refine fnR_of (G.okX S (fun vs H Q E h => ?_) (fun cdv A outer s H vs Q E hr h => ?_)) hb
  · obtain ⟨a, dx, fs, l, xs, rfl, _⟩ := h
    rfl
  · obtain ⟨a, dx, fs, l, xs, rfl, ha, hl, hsq, hq⟩ := h
    rw [hs]
    refine ⟨_, pss_one (ps_ret (pe_callB call_iterL (by exact hg) hi (by decide +kernel) (pa_cons (pe_fld (pe_var (i := 0) rfl (.inl hv)) (by rfl)) pa_nil))), ?_⟩
    exact ⟨_, rfl, a, C, dx, fs, _, rfl, ha, cl, na, hl, l, xs, rfl, hsq, hq⟩
theorem fn_lenF (G : Fun K x qual st f fd) (hb : Binds K fd ["self"] []) (S : FnScope ["self"] ["self"] (defScope st)) (cl : Cls K C) (na : NoAttr K C fn) (hi : mg "len" = none)
    (hs : defBody st = [.Return (some (.Call (.Name "len" p1) [.Attribute (.Name "self" p2) fn p3] [] p4)) p5] := by rfl) (hg : (defScope st).names.lookup ("len" : Str) = some NameKind.globalImplicit := by decide +kernel) (hv : (defScope st).names.lookup ("self" : Str) = some NameKind.local := by decide +kernel) :
    FnR P w' K mg base (L2.CX P w') 1 f (spLenF K C fn) := by
  refine fnR_of (G.okX S (fun vs H Q E h => ?_) (fun cdv A outer s H vs Q E hr h => ?_)) hb
  · obtain ⟨a, dx, fs, l, xs, rfl, _⟩ := h
    rfl
  · obtain ⟨a, dx, fs, l, xs, rfl, ha, hl, hsq, hq⟩ := h
    rw [hs]
    refine ⟨_, pss_one (ps_ret (pe_callB call_len_seq (by exact hg) hi (by decide +kernel) (pa_cons (pe_fld (pe_var (i := 0) rfl (.inl hv)) (by rfl)) pa_nil))), ?_⟩
    exact ⟨_, rfl, a, C, dx, fs, _, rfl, ha, cl, na, hl, l, xs, rfl, .inl hsq, hq⟩
end
/-- list(o), o's __iter__ being iter(self.fn), its __len__ len(self.fn) -/
def bOwnList (C : Addr) (fn : Str) : BF := fun ds μ Φ => ∃ d fs x xs, ds = [d] ∧ insD μ d = some (C, fs) ∧ fs.lookup fn = some x ∧ lisD μ x = some xs ∧ xs.length < sizeLine ∧ Φ (.lst xs) μ
theorem bd_ownList {fn : Str} : BiD K (rOwnList K C (spIterF K C fn) (spLenF K C fn)) (bOwnList C fn) := by
  rintro S H μ F vs ds Φ Q r a ⟨d, fs, x, xs, rfl, h, hx, hl, hz, hΦ⟩ k
  obtain ⟨v, rfl, av⟩ := atL1 a
  obtain ⟨p, dx, us, rfl, hp, hk, ha⟩ := ins_d r av h
  obtain ⟨u, hu, au⟩ := look_some hk ha hx
  obtain ⟨l, ws, rfl, hs, hl'⟩ := lis_at r au hl
  have sq : ∀ {H' : Hp}, (∀ b o, H b = some o → H' b = some o) → SqL K H' l ws := fun e => hs.elim (fun h => .inl (h.elim (fun h => .inl (e _ _ h)) fun ⟨o, h⟩ => .inr ⟨o, e _ _ h⟩)) .inr
  have k1 : ∀ {q : Addr} {o : HO}, H q = none → ∀ b u, H b = some u → upd H q o b = some u := fun hq b u e => by rw [upd_ne (ne_of_none e hq)]; exact e
  refine ⟨p, l, ws, rfl, ⟨dx, us, hp⟩, hs, by rw [hl'.1]; exact hz, fun q Q' hq hQ => ⟨p, dx, us, l, ws, rfl, k1 hq _ _ hp, hu, sq (k1 hq), hQ⟩, fun q it Q' hq hit hne hQ => ?_, fun q it o hq hit hne => ?_⟩
  · have k2 : ∀ b u, H b = some u → upd (upd H q (.lst [])) it (ItO l it 0) b = some u := fun b u e => by rw [upd_ne (ne_of_none e hit)]; exact k1 hq b u e
    exact ⟨p, dx, us, l, ws, rfl, k2 _ _ hp, hu, sq k2, hQ⟩
  · have r1 := r.new (o := .lst ws) hq
    have hit' : upd H q (.lst ws) it = none := by rw [upd_ne hne]; exact hit
    have l1 := Le.new (o := .lst ws) (r.free hq)
    exact k _ _ _ _ μ l1 (r1.newF (o := o) hit') (atL_lst upd_same (hl'.mono l1)) hΦ
/-- isinstance(o, C), o of the class at B -/
theorem bd_isi {B : Addr} {b : Bool} (oc : OwnC K B) (kt : PySem.W.kitOne K (.ref B) (.ref C) = some b) : BiD K (rIsi K) (bIsi B C b) := by
  rintro S H μ F vs ds Φ Q r a ⟨d, fs, rfl, h, q⟩ k
  obtain ⟨v, u, rfl, av, au⟩ := atL2 a
  obtain ⟨p, dx, us, rfl, hp, _⟩ := ins_d r av h
  exact ⟨_, _, .ref B, .ref C, b, rfl, by rw [au.adr_inv]; exact .own C, .base (.ins hp oc.cl oc.ha oc.hn oc.htk oc.hm), kt, k S H _ _ μ (Le.refl S) r (.bl b) q⟩

/-! ### raise, try .. except X: .. -/
/-- raise X('..'), an own class without an __init__ -/
structure ExcC (K : PySem.W.Frag) (C : Addr) : Prop where
  xP : PySem.W.excIn K C [.type "ValueError", .type "Exception", .type "BaseException", .type "object"] "ValueError.__new__" = true
  kP : PySem.W.keepIn K (.ref C) = true
  bP : PySem.W.subIn K (.ref C) (.type "BaseException") = some true
  tP : PySem.W.typeIn K (.ref C) = some (.type "type")
def dRaise (C : Addr) : TDS := fun _ γ μ Ξ => Ξ γ (.ref C) [] μ
theorem s_raise {x m : Str} {j : Nat} {p p2 pos pos2 : Pos} (hc : X.calm = true) (tk : Takes X W) (gP : X.mg x = some (.ref C)) (T : ExcC X.K C) (hg : Gl X x := by rfl) (hdb : (x == ("__debug__" : Str)) = false := by decide) :
    PS X (.Raise (some (.Call (.Name x p) [.Constant (.str m) j p2] [] pos)) none pos2) (tDS X.K W (dRaise C)) :=
  ps_imp (ps_raise hc tk (pmk_own PySem.F.excBase_ValueError T.xP gP T.kP (raises_own T.bP T.tP) hg hdb)) fun D σ H ⟨S, γ, μ, F, Ξ, DD, hE, hR, hX, hw, hD⟩ => hX S H σ γ _ none [] μ (Le.refl S) hE hR rfl hw
end
end DL

/-! # DL9: mathematics: sorted lists of texts without duplicates -/
namespace DL
open PySem L2
abbrev ltc : List Nat → List Nat → Bool := PySem.Spec.ltCps
theorem lt_tri : ∀ l m : List Nat, ltc l m = false → ltc m l = false → l = m
  | [], [], _, _ => rfl
  | [], b :: m, h, _ => by simp [ltc, PySem.Spec.ltCps] at h
  | a :: l, [], _, h => by simp [ltc, PySem.Spec.ltCps] at h
  | a :: l, b :: m, h1, h2 => by
    simp only [ltc, PySem.Spec.ltCps, Bool.or_eq_false_iff, decide_eq_false_iff_not, Bool.and_eq_false_iff] at h1 h2
    obtain ⟨h1, h3⟩ := h1
    obtain ⟨h2, h4⟩ := h2
    have e : a = b := Nat.le_antisymm (Nat.le_of_not_lt h2) (Nat.le_of_not_lt h1)
    subst e
    simp at h3 h4
    rw [lt_tri l m h3 h4]
theorem lt_tr : ∀ l m k : List Nat, ltc l m = true → ltc m k = true → ltc l k = true
  | [], [], _, h, _ => by simp [ltc, PySem.Spec.ltCps] at h
  | [], b :: m, [], _, h => by simp [ltc, PySem.Spec.ltCps] at h
  | [], b :: m, c :: k, _, _ => by simp [ltc, PySem.Spec.ltCps]
  | a :: l, [], _, h, _ => by simp [ltc, PySem.Spec.ltCps] at h
  | a :: l, b :: m, [], _, h => by simp [ltc, PySem.Spec.ltCps] at h
  | a :: l, b :: m, c :: k, h1, h2 => by
    simp only [ltc, PySem.Spec.ltCps, Bool.or_eq_true, decide_eq_true_eq, Bool.and_eq_true, beq_iff_eq] at h1 h2 ⊢
    rcases h1 with h1 | ⟨rfl, h1⟩
    · rcases h2 with h2 | ⟨rfl, h2⟩
      · exact .inl (Nat.lt_trans h1 h2)
      · exact .inl h1
    · rcases h2 with h2 | ⟨rfl, h2⟩
      · exact .inl h2
      · exact .inr ⟨rfl, lt_tr l m k h1 h2⟩
theorem lt_irr (l : List Nat) : ltc l l = false := by
  induction l with
  | nil => rfl
  | cons a l ih => simp only [ltc, PySem.Spec.ltCps, Bool.or_eq_false_iff, decide_eq_false_iff_not, Bool.and_eq_false_iff]; exact ⟨Nat.lt_irrefl a, .inr ih⟩
def lts (x y : Str) : Prop := ltc x.cps.toList y.cps.toList = true
theorem lts_tri {x y : Str} (h1 : ¬ lts x y) (h2 : ¬ lts y x) : x = y := by
  have e := lt_tri _ _ (Bool.not_eq_true _ ▸ h1) (Bool.not_eq_true _ ▸ h2)
  cases x; cases y
  simp only at e
  congr
  exact Array.toList_inj.mp e
/-- strictly rising -/
def Srt (ys : List Str) : Prop := ys.Pairwise lts
theorem rising_mem : ∀ {ys : List Str} {p : Str}, PyProof.Rows.risingS p ys = true → ∀ y ∈ ys, ¬ lts y p
  | [], _, _, y, hy => by simp at hy
  | x :: r, p, h, y, hy => by
    simp only [PyProof.Rows.risingS, Bool.and_eq_true, Bool.not_eq_true'] at h
    obtain ⟨h1, h2⟩ := h
    have hx : ¬ lts x p := by
      intro z
      have z : PySem.Spec.ltCps x.cps.toList p.cps.toList = true := z
      rw [h1] at z
      cases z
    rcases List.mem_cons.mp hy with rfl | hy
    · exact hx
    · have := rising_mem h2 y hy
      intro z
      by_cases w : lts p x
      · exact this (lt_tr _ _ _ z w)
      · have e := lts_tri w hx
        subst e
        exact this z
theorem rising_srt : ∀ {ys : List Str} {p : Str}, PyProof.Rows.risingS p ys = true → (p :: ys).Nodup → (p :: ys).Pairwise lts
  | [], p, _, _ => by simp
  | x :: r, p, h, nd => by
    have hm := rising_mem h
    simp only [PyProof.Rows.risingS, Bool.and_eq_true] at h
    have nd2 := (List.nodup_cons.mp nd)
    refine List.pairwise_cons.mpr ⟨fun y hy => ?_, rising_srt h.2 nd2.2⟩
    by_cases z : lts p y
    · exact z
    · have e := lts_tri z (hm y hy)
      subst e
      exact (nd2.1 hy).elim
theorem srt_of {ys : List Str} (h : PyProof.Rows.sortedS ys = true) (nd : ys.Nodup) : Srt ys := by
  cases ys with
  | nil => exact List.Pairwise.nil
  | cons x r => exact rising_srt h nd
theorem srt_head {x y : Str} {xs ys : List Str} (h1 : Srt (x :: xs)) (h2 : Srt (y :: ys)) (he : ∀ z, z ∈ x :: xs ↔ z ∈ y :: ys) : x = y := by
  have hx := (he x).mp List.mem_cons_self
  have hy := (he y).mpr List.mem_cons_self
  rcases List.mem_cons.mp hx with e | hx
  · exact e
  · rcases List.mem_cons.mp hy with e | hy
    · exact e.symm
    · have a : lts y x := (List.pairwise_cons.mp h2).1 x hx
      have b : lts x y := (List.pairwise_cons.mp h1).1 y hy
      have c := lt_tr _ _ _ a b
      rw [lt_irr] at c
      cases c
theorem srt_notmem {x : Str} {xs : List Str} (h : Srt (x :: xs)) : x ∉ xs := fun hm => by
  have a : lts x x := (List.pairwise_cons.mp h).1 x hm
  unfold lts at a
  rw [lt_irr] at a
  cases a
theorem srt_one : ∀ {xs ys : List Str}, Srt xs → Srt ys → (∀ z, z ∈ xs ↔ z ∈ ys) → xs = ys
  | [], [], _, _, _ => rfl
  | [], y :: ys, _, _, h => by have := (h y).mpr List.mem_cons_self; simp at this
  | x :: xs, [], _, _, h => by have := (h x).mp List.mem_cons_self; simp at this
  | x :: xs, y :: ys, h1, h2, h => by
    have e := srt_head h1 h2 h
    subst e
    have e2 := srt_one (List.pairwise_cons.mp h1).2 (List.pairwise_cons.mp h2).2 fun z => by
      have q := h z
      simp only [List.mem_cons] at q
      constructor
      · intro hz
        rcases q.mp (.inr hz) with e | hz'
        · subst e; exact (srt_notmem h1 hz).elim
        · exact hz'
      · intro hz
        rcases q.mpr (.inr hz) with e | hz'
        · subst e; exact (srt_notmem h2 hz).elim
        · exact hz'
    rw [e2]
theorem Srt.nodup {xs : List Str} (h : Srt xs) : xs.Nodup := by
  refine List.Pairwise.imp (fun {a b} hab e => ?_) h
  subst e
  unfold lts at hab
  rw [lt_irr] at hab
  cases hab
/-- the kept ones of a walk from the left -/
def ddGo (acc : List Str) : List Str → List Str
  | [] => acc
  | x :: r => ddGo (if x ∈ acc then acc else acc ++ [x]) r
def dd (xs : List Str) : List Str := ddGo [] xs
theorem ddGo_snoc (x : Str) : ∀ (xs acc : List Str), ddGo acc (xs ++ [x]) = if x ∈ ddGo acc xs then ddGo acc xs else ddGo acc xs ++ [x]
  | [], acc => rfl
  | y :: r, acc => ddGo_snoc x r _
theorem dd_snoc (xs : List Str) (x : Str) : dd (xs ++ [x]) = if x ∈ dd xs then dd xs else dd xs ++ [x] := ddGo_snoc x xs []
theorem ddGo_nd : ∀ (xs acc : List Str), acc.Nodup → (ddGo acc xs).Nodup
  | [], _, h => h
  | x :: r, acc, h => by
    unfold ddGo
    refine ddGo_nd r _ ?_
    by_cases z : x ∈ acc
    · rw [if_pos z]; exact h
    · rw [if_neg z]
      rw [List.nodup_append]
      exact ⟨h, by simp, fun a ha b hb e => by simp at hb; subst hb; subst e; exact z ha⟩
theorem ddGo_mem : ∀ (xs acc : List Str) (z : Str), z ∈ ddGo acc xs ↔ z ∈ acc ∨ z ∈ xs
  | [], acc, z => by simp [ddGo]
  | x :: r, acc, z => by
    unfold ddGo
    rw [ddGo_mem r]
    by_cases q : x ∈ acc
    · rw [if_pos q]
      constructor
      · rintro (h | h)
        · exact .inl h
        · exact .inr (List.mem_cons_of_mem _ h)
      · rintro (h | h)
        · exact .inl h
        · rcases List.mem_cons.mp h with e | h
          · subst e; exact .inl q
          · exact .inr h
    · rw [if_neg q]
      simp only [List.mem_append, List.mem_cons, List.not_mem_nil, or_false]
      exact or_assoc
theorem dd_nd (xs : List Str) : (dd xs).Nodup := ddGo_nd xs [] List.nodup_nil
theorem dd_mem (xs : List Str) (z : Str) : z ∈ dd xs ↔ z ∈ xs := by unfold dd; rw [ddGo_mem]; simp
theorem ddGo_len : ∀ (xs acc : List Str), (ddGo acc xs).length ≤ acc.length + xs.length
  | [], acc => by simp [ddGo]
  | x :: r, acc => by
    unfold ddGo
    have := ddGo_len r (if x ∈ acc then acc else acc ++ [x])
    by_cases q : x ∈ acc
    · rw [if_pos q] at this ⊢; simp; omega
    · rw [if_neg q] at this ⊢; simp at this ⊢; omega
theorem dd_len (xs : List Str) : (dd xs).length ≤ xs.length := by have := ddGo_len xs []; simpa [dd] using this
/-- flat lists of texts -/
theorem inD_str (x : Str) (xs : List Str) : inD (.str x) (xs.map D.str) = decide (x ∈ xs) := by
  unfold inD
  show inV (.str x) ((xs.map D.str).filterMap flatD) = _
  induction xs with
  | nil => rfl
  | cons y ys ih =>
    rw [List.map_cons, List.filterMap_cons]
    show inV (.str x) (V.str y :: (ys.map D.str).filterMap flatD) = _
    unfold inV at ih ⊢
    rw [List.any_cons, ih]
    show ((y == x) || _) = _
    by_cases h : x = y
    · subst h; simp
    · have h' : ¬ y = x := fun e => h e.symm
      simp [h, h']
theorem flat_strs (xs : List Str) : (xs.map D.str).all (fun d => (flatD d).isSome) = true := by
  induction xs with
  | nil => rfl
  | cons x xs ih => rw [List.map_cons, List.all_cons, ih]; rfl
theorem toPs_strs (μ : Mu) (xs : List Str) : toPs μ (xs.map D.str) = some (xs.map PyData.str) := by
  induction xs with
  | nil => rfl
  | cons x xs ih => rw [List.map_cons, toPs, ih]; simp [toP]
theorem lay_strs : ∀ xs : List Str, (∀ x ∈ xs, PyData.strOk x = true) → PyData.canLayAll0 (xs.map PyData.str) = true
  | [], _ => by simp [PyData.canLayAll0]
  | x :: xs, h => by
    have h1 := h x List.mem_cons_self
    have h2 := lay_strs xs fun y hy => h y (List.mem_cons_of_mem _ hy)
    simp [PyData.canLayAll0, PyData.canLay0, h1, h2]
theorem depth_strs : ∀ xs : List Str, PyData.depthAll (xs.map PyData.str) = 0
  | [] => by simp [PyData.depthAll]
  | x :: xs => by simp [PyData.depthAll, PyData.depth, depth_strs xs]
theorem shaped_strs (xs : List Str) (h : ∀ x ∈ xs, PyData.strOk x = true) : SeqAt.shaped (.list (xs.map PyData.str)) = true := by
  unfold SeqAt.shaped
  rw [PyData.canLay0, lay_strs xs h, PyData.depth, depth_strs]
  decide
theorem eqvAll_strs : ∀ xs ys : List Str, PyData.eqvAll (xs.map PyData.str) (ys.map PyData.str) = decide (xs = ys)
  | [], [] => by simp [PyData.eqvAll]
  | [], y :: ys => by simp [PyData.eqvAll]
  | x :: xs, [] => by simp [PyData.eqvAll]
  | x :: xs, y :: ys => by
    simp only [List.map_cons, PyData.eqvAll, PyData.eqv, eqvAll_strs xs ys]
    by_cases h : x = y
    · subst h; simp
    · simp [h]
theorem eqv_strs (xs ys : List Str) : PyData.eqv (.list (xs.map PyData.str)) (.list (ys.map PyData.str)) = decide (xs = ys) := by
  rw [PyData.eqv, eqvAll_strs]
end DL

/-! # DL10: the readings step by step -/
namespace DL
open PySem L2
section
variable {γ : Ga} {μ : Mu} {Ξ : XD} {Φ : KD} {Ψ : Bool → Mu → Prop} {Λ : List D → Mu → Prop} {nx bk ct : Ga → Mu → Prop} {rt : KD} {d e : D} {i : Nat}
theorem dSeq_i {t u : TDS} (h : t ⟨fun γ' μ' => u ⟨nx, rt, bk, ct⟩ γ' μ' Ξ, rt, bk, ct⟩ γ μ Ξ) : dSeq t u ⟨nx, rt, bk, ct⟩ γ μ Ξ := h
theorem dNext_i (h : nx γ μ) : dNext ⟨nx, rt, bk, ct⟩ γ μ Ξ := h
theorem dBreak_i (h : bk γ μ) : dBreak ⟨nx, rt, bk, ct⟩ γ μ Ξ := h
theorem dCont_i (h : ct γ μ) : dCont ⟨nx, rt, bk, ct⟩ γ μ Ξ := h
theorem dAsg_i {w : TD} {g : TDG} (h : w γ μ Ξ fun d μ1 => g d γ μ1 Ξ nx) : dAsg w g ⟨nx, rt, bk, ct⟩ γ μ Ξ := h
theorem dDrop_i {w : TD} (h : w γ μ Ξ fun _ μ1 => nx γ μ1) : dDrop w ⟨nx, rt, bk, ct⟩ γ μ Ξ := h
theorem dRet_i {w : TD} (h : w γ μ Ξ fun d μ1 => rt d μ1) : dRet w ⟨nx, rt, bk, ct⟩ γ μ Ξ := h
theorem dRetN_i (h : rt .non μ) : dRetN ⟨nx, rt, bk, ct⟩ γ μ Ξ := h
theorem dIf_i {c : TDT} {t u : TDS} (h : c γ μ Ξ fun b μ1 => if b = true then t ⟨nx, rt, bk, ct⟩ γ μ1 Ξ else u ⟨nx, rt, bk, ct⟩ γ μ1 Ξ) : dIf c t u ⟨nx, rt, bk, ct⟩ γ μ Ξ := h
theorem dRaise_i {C : Addr} (h : Ξ γ (.ref C) [] μ) : dRaise C ⟨nx, rt, bk, ct⟩ γ μ Ξ := h
theorem gNm_i {K' : Ga → Mu → Prop} (h : K' (γ.set i (some d)) μ) : gNm i d γ μ Ξ K' := h
theorem dVar_i (h : γ[i]? = some (some d)) (k : Φ d μ) : dVar i γ μ Ξ Φ := ⟨d, h, k⟩
theorem dC_i (k : Φ d μ) : dC d γ μ Ξ Φ := k
theorem dOp_i {o : OD} {wa wb : TD} (h : wa γ μ Ξ fun x μ1 => wb γ μ1 Ξ fun y μ2 => o x y μ2 Φ) : dOp o wa wb γ μ Ξ Φ := h
theorem dTest_i {w : TD} (h : w γ μ Ξ fun d μ' => ∃ b, d = .bl b ∧ Ψ b μ') : dTest w γ μ Ξ Ψ := h
theorem blEx_i {b : Bool} (h : Ψ b μ) : ∃ b', D.bl b = .bl b' ∧ Ψ b' μ := ⟨b, rfl, h⟩
theorem dAnd_i {t u : TDT} (h : t γ μ Ξ fun b μ1 => if b = true then u γ μ1 Ξ Ψ else Ψ false μ1) : dAnd t u γ μ Ξ Ψ := h
theorem dOr_i {t u : TDT} (h : t γ μ Ξ fun b μ1 => if b = true then Ψ true μ1 else u γ μ1 Ξ Ψ) : dOr t u γ μ Ξ Ψ := h
theorem dNot_i {t : TDT} (h : t γ μ Ξ fun b μ1 => Ψ (!b) μ1) : dNot t γ μ Ξ Ψ := h
theorem dTru_i {w : TD} (h : w γ μ Ξ fun d μ1 => ∃ b, truD μ1 d = some b ∧ Ψ b μ1) : dTru w γ μ Ξ Ψ := h
theorem truBl_i {b : Bool} {P : Bool → Prop} (h : P b) : ∃ b', truD μ (D.bl b) = some b' ∧ P b' := ⟨b, rfl, h⟩
theorem truLst_i {xs : List D} {P : Bool → Prop} (h : P (!xs.isEmpty)) : ∃ b', truD μ (D.lst xs) = some b' ∧ P b' := ⟨_, rfl, h⟩
theorem dAndV_i {wa wb : TD} (h : wa γ μ Ξ fun d μ1 => ∃ c, d = .bl c ∧ if c = true then wb γ μ1 Ξ Φ else Φ (.bl false) μ1) : dAndV wa wb γ μ Ξ Φ := h
theorem dOrV_i {wa wb : TD} (h : wa γ μ Ξ fun d μ1 => ∃ c, d = .bl c ∧ if c = true then Φ (.bl true) μ1 else wb γ μ1 Ξ Φ) : dOrV wa wb γ μ Ξ Φ := h
theorem dNotV_i {wa : TD} (h : wa γ μ Ξ fun d μ1 => ∃ c, d = .bl c ∧ Φ (.bl (!c)) μ1) : dNotV wa γ μ Ξ Φ := h
theorem blEx2_i {b : Bool} {P : Bool → Prop} (h : P b) : ∃ b', D.bl b = .bl b' ∧ P b' := ⟨b, rfl, h⟩
theorem dIfE_i {t : TDT} {wa wb : TD} (h : t γ μ Ξ fun c μ1 => if c = true then wa γ μ1 Ξ Φ else wb γ μ1 Ξ Φ) : dIfE t wa wb γ μ Ξ Φ := h
theorem dNil_i (h : Λ [] μ) : dNil γ μ Ξ Λ := h
theorem dCons_i {w : TD} {t : TDA} (h : w γ μ Ξ fun d μ1 => t γ μ1 Ξ fun ds μ2 => Λ (d :: ds) μ2) : dCons w t γ μ Ξ Λ := h
theorem dCall_i {w : TF} {t : TDA} (h : t γ μ Ξ fun ds μ1 => w ds μ1 (Ξ γ) Φ) : dCall w t γ μ Ξ Φ := h
theorem dBi_i {w : BF} {t : TDA} (h : t γ μ Ξ fun ds μ1 => w ds μ1 Φ) : dBi w t γ μ Ξ Φ := h
theorem dTup_i {t : TDA} (h : t γ μ Ξ fun ds μ1 => ds.length ≤ sizeLine ∧ Φ (.tup ds) μ1) : dTup t γ μ Ξ Φ := h
theorem dLst_i {t : TDA} (h : t γ μ Ξ fun ds μ1 => ds.length ≤ sizeLine ∧ Φ (.lst ds) μ1) : dLst t γ μ Ξ Φ := h
theorem dLstM_i {t : TDA} (h : t γ μ Ξ fun ds μ1 => ds.length ≤ sizeLine ∧ ∀ p, μ1 p = none → Φ (.adr p) (updM μ1 p (.lst ds))) : dLstM t γ μ Ξ Φ := h
theorem dFld_i {C : Addr} {f : Str} {w : TD} (h : w γ μ Ξ fun d μ1 => ∃ fs x, insD μ1 d = some (C, fs) ∧ fs.lookup f = some x ∧ Φ x μ1) : dFld C f w γ μ Ξ Φ := h
theorem dSFld_i {C : Addr} {f : Str} {wo wv : TD} (h : wv γ μ Ξ fun d μ1 => wo γ μ1 Ξ fun o μ2 => ∃ a fs, o = .adr a ∧ μ2 a = some (.ins C fs) ∧ fs.length < 1000 ∧ nx γ (updM μ2 a (.ins C (putD f d fs)))) : dSFld C f wo wv ⟨nx, rt, bk, ct⟩ γ μ Ξ := h
theorem dMeth_i {C : Addr} {m : Str} {w : TF} {wo : TD} {t : TDA} (h : wo γ μ Ξ fun d μ1 => ∃ fs, insD μ1 d = some (C, fs) ∧ fs.lookup m = none ∧ t γ μ1 Ξ fun ds μ2 => w (d :: ds) μ2 (Ξ γ) Φ) : dMeth C m w wo t γ μ Ξ Φ := h
theorem dSl_i {w : TD} {wl wh : TDO} (h : w γ μ Ξ fun d μ1 => wl γ μ1 Ξ fun lo μ2 => wh γ μ2 Ξ fun hi μ3 => ∃ ds, lisD μ3 d = some ds ∧ Φ (.lst (cutD ds lo hi)) μ3) : dSl w wl wh γ μ Ξ Φ := h
theorem dNoPart_i {Q : Option Int → Mu → Prop} (h : Q none μ) : dNoPart γ μ Ξ Q := h
theorem dPart_i {Q : Option Int → Mu → Prop} {w : TD} (h : w γ μ Ξ fun d μ1 => ∃ i, d = .int i ∧ Q (some i) μ1) : dPart w γ μ Ξ Q := h
theorem intEx_i {j : Int} {P : Int → Prop} (h : P j) : ∃ i, D.int j = .int i ∧ P i := ⟨j, rfl, h⟩
theorem dStar_i {w : TD} {t : TDA} (h : w γ μ Ξ fun d μ1 => ∃ xs, itemsD μ1 d = some xs ∧ t γ μ1 Ξ fun ds μ2 => Λ (xs ++ ds) μ2) : dStar w t γ μ Ξ Λ := h
theorem itEx_lst {xs : List D} {P : List D → Prop} (h : P xs) : ∃ ys, itemsD μ (.lst xs) = some ys ∧ P ys := ⟨xs, rfl, h⟩
theorem itEx_tup {xs : List D} {P : List D → Prop} (h : P xs) : ∃ ys, itemsD μ (.tup xs) = some ys ∧ P ys := ⟨xs, rfl, h⟩
theorem itEx_ktup {xs : List D} {P : List D → Prop} (h : P xs) : ∃ ys, itemsD μ (.ktup xs) = some ys ∧ P ys := ⟨xs, rfl, h⟩
theorem itEx_fro {xs : List D} {P : List D → Prop} (h : P xs) : ∃ ys, itemsD μ (.fro xs) = some ys ∧ P ys := ⟨xs, rfl, h⟩
theorem liEx_lst {xs : List D} {P : List D → Prop} (h : P xs) : ∃ ys, lisD μ (.lst xs) = some ys ∧ P ys := ⟨xs, rfl, h⟩
theorem items_adr {a : Addr} {xs : List D} (h : μ a = some (.lst xs)) : itemsD μ (.adr a) = some xs := by show lisM (μ a) = some xs; rw [h]; rfl
theorem lis_adr {a : Addr} {xs : List D} (h : μ a = some (.lst xs)) : lisD μ (.adr a) = some xs := by show lisM (μ a) = some xs; rw [h]; rfl
theorem ins_adr {a C : Addr} {fs : List (Str × D)} (h : μ a = some (.ins C fs)) : insD μ (.adr a) = some (C, fs) := by show insM (μ a) = some (C, fs); rw [h]; rfl
theorem fldIns_i {C : Addr} {f : Str} {fs : List (Str × D)} {x : D} {P : D → Prop} (h : fs.lookup f = some x) (k : P x) : ∃ gs y, insD μ (.ins C fs) = some (C, gs) ∧ gs.lookup f = some y ∧ P y := ⟨fs, x, rfl, h, k⟩
theorem dIt_i {w : TD} {P : List D → (Mu → Prop) → Mu → Prop} (h : w γ μ Ξ fun d μ1 => ∃ xs, itemsD μ1 d = some xs ∧ P xs (grdD d xs) μ1) : dIt w γ μ Ξ P := h
theorem dLc_i {wi : TDI} {wg : TDC} {wt : TDT} {we : TD} {vs : List Nat} (h : wi γ μ Ξ fun ds G μ1 => dLcT wg wt we vs γ ds G μ1 fun acc μ' => Φ (.lst acc) μ') : dLc wi wg wt we vs γ μ Ξ Φ := h
theorem dLcM_i {wi : TDI} {wg : TDC} {wt : TDT} {we : TD} {vs : List Nat} (h : wi γ μ Ξ fun ds G μ1 => dLcT wg wt we vs γ ds G μ1 fun acc μ' => ∀ p, μ' p = none → Φ (.adr p) (updM μ' p (.lst acc))) : dLcM wi wg wt we vs γ μ Ξ Φ := h
theorem dFor_i {wi : TDI} {wg : TDG} {wb : TDS} (h : wi γ μ Ξ fun ds G μ1 => ∃ I : Nat → Ga → Mu → Prop, I 0 γ μ1 ∧ (∀ i γ' μ', I i γ' μ' → G μ') ∧
  (∀ i d γ' μ', ds[i]? = some d → I i γ' μ' → wg d γ' μ' Ξ fun γ2 μ2 => wb ⟨I (i + 1), rt, nx, I (i + 1)⟩ γ2 μ2 Ξ) ∧ ∀ γ' μ', I ds.length γ' μ' → nx γ' μ') : dFor wi wg wb ⟨nx, rt, bk, ct⟩ γ μ Ξ := h
theorem dYes_i (h : Ψ true μ) : dYes γ μ Ξ Ψ := h
theorem cNm_i {P : Ga → Prop} (h : P (γ.set i (some d))) : cNm i d γ P := h
theorem dRng1_i {t : TDA} {P : List D → (Mu → Prop) → Mu → Prop} (h : t γ μ Ξ fun ds μ1 => ∃ j : Int, ds = [.int j] ∧ -(2 ^ 62) ≤ j ∧ j < 2 ^ 62 ∧ P (rngD 0 j.toNat) (fun _ => True) μ1) : dRng1 t γ μ Ξ P := h
theorem dAug_i {w : TD} {o : OD} (h : γ[i]? = some (some d)) (k : w γ μ Ξ fun y μ1 => o d y μ1 fun z μ2 => nx (γ.set i (some z)) μ2) : dAug i w o ⟨nx, rt, bk, ct⟩ γ μ Ξ := ⟨d, h, k⟩
/-! operators -/
theorem oAdd_int {i j : Int} (h : Φ (.int (i + j)) μ) : oAdd (.int i) (.int j) μ Φ := h
theorem oAdd_str {a b : Str} (hz : a.length + b.length ≤ sizeLine) (h : Φ (.str (a ++ b)) μ) : oAdd (.str a) (.str b) μ Φ := ⟨hz, h⟩
theorem oAdd_lst {a b : List D} (hz : a.length + b.length ≤ sizeLine) (h : Φ (.lst (a ++ b)) μ) : oAdd (.lst a) (.lst b) μ Φ := ⟨a, b, rfl, rfl, rfl, rfl, hz, h⟩
theorem oSub_int {i j : Int} (h : Φ (.int (i - j)) μ) : oSub (.int i) (.int j) μ Φ := ⟨i, j, rfl, rfl, h⟩
theorem oMul_int {i j : Int} (c : CMul i j) (h : Φ (.int (i * j)) μ) : oMul (.int i) (.int j) μ Φ := ⟨i, j, rfl, rfl, c, h⟩
theorem oDiv_int {i j : Int} (c : CDiv i j) (h : Φ (.int (i / j)) μ) : oDiv (.int i) (.int j) μ Φ := ⟨i, j, rfl, rfl, c, h⟩
theorem oMod_int {i j : Int} (c : 0 < j) (h : Φ (.int (i % j)) μ) : oMod (.int i) (.int j) μ Φ := ⟨i, j, rfl, rfl, c, h⟩
theorem oPow_int {i j : Int} (c : CPow i j) (h : Φ (.int (i ^ j.toNat)) μ) : oPow (.int i) (.int j) μ Φ := ⟨i, j, rfl, rfl, c, h⟩
theorem oLt_int {i j : Int} (h : Φ (.bl (decide (i < j))) μ) : oLt (.int i) (.int j) μ Φ := ⟨i, j, rfl, rfl, h⟩
theorem oLe_int {i j : Int} (h : Φ (.bl (decide (i ≤ j))) μ) : oLe (.int i) (.int j) μ Φ := ⟨i, j, rfl, rfl, h⟩
theorem oGt_int {i j : Int} (h : Φ (.bl (decide (j < i))) μ) : oGt (.int i) (.int j) μ Φ := ⟨i, j, rfl, rfl, h⟩
theorem oGe_int {i j : Int} (h : Φ (.bl (decide (j ≤ i))) μ) : oGe (.int i) (.int j) μ Φ := ⟨i, j, rfl, rfl, h⟩
theorem oEq_int {i j : Int} (h : Φ (.bl (decide (i = j))) μ) : oEq false (.int i) (.int j) μ Φ := h
theorem oNe_int {i j : Int} (h : Φ (.bl (!decide (i = j))) μ) : oEq true (.int i) (.int j) μ Φ := h
theorem oEq_str {i j : Str} (h : Φ (.bl (decide (i = j))) μ) : oEq false (.str i) (.str j) μ Φ := h
theorem oNe_str {i j : Str} (h : Φ (.bl (!decide (i = j))) μ) : oEq true (.str i) (.str j) μ Φ := h
theorem oEq_bl {i j : Bool} (h : Φ (.bl (decide (i = j))) μ) : oEq false (.bl i) (.bl j) μ Φ := h
theorem oNe_bl {i j : Bool} (h : Φ (.bl (!decide (i = j))) μ) : oEq true (.bl i) (.bl j) μ Φ := h
theorem oEq_strs {xs ys : List Str} (h1 : ∀ x ∈ xs, PyData.strOk x = true) (h2 : ∀ x ∈ ys, PyData.strOk x = true) (h : Φ (.bl (decide (xs = ys))) μ) : oEq false (.lst (xs.map D.str)) (.lst (ys.map D.str)) μ Φ := by
  refine ⟨_, _, show toP μ (.lst (xs.map D.str)) = _ by rw [toP, toPs_strs]; rfl, show toP μ (.lst (ys.map D.str)) = _ by rw [toP, toPs_strs]; rfl, shaped_strs xs h1, shaped_strs ys h2, ?_⟩
  rw [eqv_strs]; exact h
theorem oNe_strs {xs ys : List Str} (h1 : ∀ x ∈ xs, PyData.strOk x = true) (h2 : ∀ x ∈ ys, PyData.strOk x = true) (h : Φ (.bl (!decide (xs = ys))) μ) : oEq true (.lst (xs.map D.str)) (.lst (ys.map D.str)) μ Φ := by
  refine ⟨_, _, show toP μ (.lst (xs.map D.str)) = _ by rw [toP, toPs_strs]; rfl, show toP μ (.lst (ys.map D.str)) = _ by rw [toP, toPs_strs]; rfl, shaped_strs xs h1, shaped_strs ys h2, ?_⟩
  rw [eqv_strs]; exact h
theorem oIn_strs {x : Str} {y : D} {ys : List Str} (hy : itemsD μ y = some (ys.map D.str)) (h : Φ (.bl (decide (x ∈ ys))) μ) : oIn false (.str x) y μ Φ := ⟨_, hy, rfl, flat_strs ys, by rw [inD_str]; exact h⟩
theorem oNotIn_strs {x : Str} {y : D} {ys : List Str} (hy : itemsD μ y = some (ys.map D.str)) (h : Φ (.bl (!decide (x ∈ ys))) μ) : oIn true (.str x) y μ Φ := ⟨_, hy, rfl, flat_strs ys, by rw [inD_str]; exact h⟩
theorem oIx_items {x : D} {xs : List D} {j : Int} (h1 : itemsD μ x = some xs) (h2 : atI xs j = some d) (h : Φ d μ) : oIx x (.int j) μ Φ := by
  cases x <;> first | exact ⟨xs, d, h1, h2, h⟩ | cases h1
theorem oIx_str {z : Str} {j : Int} {c : Nat} (h0 : z.length ≤ sizeLine) (h1 : atI z.cps.toList j = some c) (h : Φ (.str ⟨#[c]⟩) μ) : oIx (.str z) (.int j) μ Φ := ⟨c, h0, h1, h⟩
/-! built-ins -/
theorem bLen_lst {xs : List D} (h : Φ (.int xs.length) μ) : bLen [.lst xs] μ Φ := ⟨_, _, rfl, rfl, h⟩
theorem bLen_tup {xs : List D} (h : Φ (.int xs.length) μ) : bLen [.tup xs] μ Φ := ⟨_, _, rfl, rfl, h⟩
theorem bLen_ktup {xs : List D} (h : Φ (.int xs.length) μ) : bLen [.ktup xs] μ Φ := ⟨_, _, rfl, rfl, h⟩
theorem bLen_fro {xs : List D} (h : Φ (.int xs.length) μ) : bLen [.fro xs] μ Φ := ⟨_, _, rfl, rfl, h⟩
theorem bLen_adr {a : Addr} {xs : List D} (h1 : μ a = some (.lst xs)) (h : Φ (.int xs.length) μ) : bLen [.adr a] μ Φ := ⟨_, _, rfl, by show (itemsD μ (.adr a)).map List.length = _; rw [items_adr h1]; rfl, h⟩
theorem bLen_str {x : Str} (hz : x.length ≤ sizeLine) (h : Φ (.int x.length) μ) : bLen [.str x] μ Φ := ⟨_, _, rfl, by show (if x.length ≤ sizeLine then some x.length else none) = _; rw [if_pos hz], h⟩
theorem bInt_int {j : Int} (h : Φ (.int j) μ) : bInt [.int j] μ Φ := .inl ⟨j, rfl, h⟩
theorem bInt_bl {b : Bool} (h : Φ (.int (if b then 1 else 0)) μ) : bInt [.bl b] μ Φ := .inr ⟨b, rfl, h⟩
theorem bStr_str {x : Str} (h : Φ (.str x) μ) : bStr [.str x] μ Φ := ⟨x, rfl, h⟩
theorem bList_items {x : D} {xs : List D} (h1 : itemsD μ x = some xs) (h : Φ (.lst xs) μ) : bList [x] μ Φ := ⟨x, xs, rfl, h1, h⟩
theorem bListM_items {x : D} {xs : List D} (h1 : itemsD μ x = some xs) (h : ∀ p, μ p = none → Φ (.adr p) (updM μ p (.lst xs))) : bListM [x] μ Φ := ⟨x, xs, rfl, h1, h⟩
theorem bTuple_lis {x : D} {xs : List D} (h1 : lisD μ x = some xs) (h : Φ (.tup xs) μ) : bTuple [x] μ Φ := ⟨x, xs, rfl, h1, h⟩
theorem bAll_bls {bs : List Bool} (h : Φ (.bl (bs.all id)) μ) : bAll [.lst (bs.map D.bl)] μ Φ := ⟨_, bs, rfl, rfl, h⟩
theorem bAny_bls {bs : List Bool} (h : Φ (.bl (bs.any id)) μ) : bAny [.lst (bs.map D.bl)] μ Φ := ⟨_, bs, rfl, rfl, h⟩
theorem bIsi_ins {B C : Addr} {b : Bool} {x : D} {fs : List (Str × D)} (h1 : insD μ x = some (B, fs)) (h : Φ (.bl b) μ) : bIsi B C b [x, .adr C] μ Φ := ⟨x, fs, rfl, h1, h⟩
theorem dBm_i {p : Mu → D → Prop} {w : MF} {wo : TD} {t : TDA} (h : wo γ μ Ξ fun d μ1 => p μ1 d ∧ t γ μ1 Ξ fun ds μ2 => w d ds μ2 Φ) : dBm p w wo t γ μ Ξ Φ := h
theorem mAppend_i {a : Addr} {xs : List D} {x : D} (h1 : μ a = some (.lst xs)) (hz : xs.length < sizeLine) (h : Φ .non (updM μ a (.lst (xs ++ [x])))) : mAppend (.adr a) [x] μ Φ := ⟨a, xs, x, rfl, rfl, h1, hz, h⟩
theorem isLis_adr {a : Addr} {xs : List D} (h1 : μ a = some (.lst xs)) : isLis μ (.adr a) := ⟨xs, lis_adr h1⟩
theorem isStr_i {x : Str} : isStr μ (.str x) := ⟨x, rfl⟩
theorem mJoin_i {x : Str} {y : D} {ys : List Str} (h1 : itemsD μ y = some (ys.map D.str)) (hz : (ys.map (·.length)).sum + ys.length * x.length ≤ 16777216) (h : Φ (.str (Txt.join x ys)) μ) : mJoin (.str x) [y] μ Φ := ⟨x, y, ys, rfl, rfl, h1, hz, h⟩
theorem ite_i {b : Bool} {A B : Prop} (h1 : b = true → A) (h2 : b = false → B) : if b = true then A else B := by
  cases b with
  | true => rw [if_pos rfl]; exact h1 rfl
  | false => rw [if_neg Bool.false_ne_true]; exact h2 rfl
theorem ite_d {p : Prop} [Decidable p] {A B : Prop} (h1 : p → A) (h2 : ¬ p → B) : if decide p = true then A else B := by
  by_cases h : p
  · rw [if_pos (decide_eq_true h)]; exact h1 h
  · rw [if_neg (by rw [decide_eq_false h]; exact Bool.false_ne_true)]; exact h2 h
theorem ite_nd {p : Prop} [Decidable p] {A B : Prop} (h1 : ¬ p → A) (h2 : p → B) : if (!decide p) = true then A else B := by
  by_cases h : p
  · rw [decide_eq_true h]; exact iteF (h2 h)
  · rw [decide_eq_false h]; exact iteT (h1 h)
theorem sz_of {n : Nat} (h : n ≤ 1000000) : n ≤ sizeLine := Nat.le_trans h (by rw [sizeLine_eq]; decide)
theorem sz_lt {n : Nat} (h : n < 1000000) : n < sizeLine := Nat.lt_of_lt_of_le h (by rw [sizeLine_eq]; decide)
/-- the store with a place of it changed -/
theorem upd_at {a b : Addr} {o m : MO} (h : a ≠ b) (hm : μ a = some m) : updM μ b o a = some m := by rw [updM_ne h]; exact hm
end
end DL

/-! # DL11: a def as the top leaves it; the law's end -/
namespace DL
open PySem L2
structure FunE (K : PySem.W.Frag) (x qual : Str) (st : Stmt) (f : Addr) : Prop where
  ex2 : ∃ (oc : Value) (od an : Option Addr) (osl : Array (Option Value)) (kV doc pm cdv ct : Value), K.lookup f = some ⟨oc, od, .func (PySem.W.fnOf x qual (defArgs st) (defBody st) (defScope st) .none kV doc pm an cdv ct), osl⟩ ∧ PySem.W.codeIn K cdv qual = true
  kp : PySem.W.keepIn K (.ref f) = true
theorem FunE.ex {K : PySem.W.Frag} {x qual : Str} {st : Stmt} {f : Addr} (h : FunE K x qual st f) : ∃ fd, Fun K x qual st f fd :=
  let ⟨oc, od, an, osl, kV, doc, pm, cdv, ct, l, c⟩ := h.ex2
  ⟨_, fun_mk l c h.kp⟩
section
variable {P : Program} {w : World} {K : PySem.W.Frag} {mg : Str → Option Value} {base : Heap} {X : Cx} {W : WX}
def dNever : TDS := fun _ _ _ _ => False
theorem s_never {st : Stmt} : PS X st (tDS X.K W dNever) := ps_imp ps_never fun D σ H ⟨S, γ, μ, F, Ξ, DD, hE, hR, hX, hw, hD⟩ => hw
/-- the law's own promise: it gives True -/
def tLaw : TF := fun ds μ _ Φ => ∃ ns : List Int, ns.length ≤ 63 ∧ ds = [.fro (ns.map D.int)] ∧ (∀ a, μ a = none) ∧ ∀ μ', Φ (.bl true) μ'
theorem fn_law {x qual : Str} {st : Stmt} {f : Addr} {fd : FuncData} {N : List Str} {k : Nat} (G : Fun K x qual st f fd) (S : FnScope N ["script"] (defScope st))
    (hbody : ∀ (cdv : Value) (A : Around) (outer : List PySem.Env) (s : Shared) (H : Hp) (E : XK), Room k (A.deeper (PyProof.Rows.envOfC qual (defScope st) s.heap.objs.size f cdv)) →
      ∃ WB, PSs (cxOf (L2.CX P w) P w K mg base N qual (defScope st) f cdv A outer s H E) (defBody st) (tDS K (fun cls d _ H => E cls d H) WB) ∧ ∀ ds μ Ξ Φ, tLaw ds μ Ξ Φ → WB { nx := fun _ μ' => Φ .non μ', rt := Φ } (startG N ds) μ (fun _ => Ξ)) : FnOk P w K mg base (L2.CX P w) (k + 1) f fd ["script"] (SpD K tLaw) := by
  refine G.okX S (fun vs H Q E h => ?_) fun cdv A outer s H vs Q E hr h => ?_
  · obtain ⟨S, ds, μ, F, Ξ, Φ, a, r, ⟨ns, _, rfl, _⟩, _⟩ := h
    exact a.1
  · obtain ⟨S, ds, μ, F, Ξ, Φ, a, r, h, hq, hx⟩ := h
    obtain ⟨WB, hp, hw⟩ := hbody cdv A outer s H E hr
    exact ⟨_, hp, S, startG N ds, μ, F, fun _ => Ξ, _, Env.start a N, r, fun S' H' σ γ cls xd fs μ' l e r' x q => hx S' H' cls xd fs μ' l r' x q, hw ds μ Ξ Φ h, eok_def hq⟩
end
theorem law_in {K : PySem.W.Frag} {H : Hp} {a : Addr} {ns : List Int} (hl : ns.length ≤ 63) (h : SqL K H a (ns.map V.int)) : SpD K tLaw [.ref a] H (fun v _ => v = .bl true) fun _ _ _ => False :=
  ⟨H, [.fro (ns.map D.int)], fun _ => none, fun _ => none, F0, fun d _ => d = .bl true, .cons (.fro h (by simp) (atL_ints ns).2) .nil, ⟨fun _ _ e => e, (by intro _ _ e; cases e), (by intro _ _ e; cases e)⟩, ⟨ns, hl, rfl, fun _ => rfl, fun _ => rfl⟩,
    fun S' H' v d μ' _ _ at_ e => by subst e; exact at_.bl_inv, fun _ _ _ _ _ _ _ _ _ z => z⟩
theorem walk_D {l : PySem.W.OpenLaw} {k : Nat} {q : Program} {loose : List Str} {XP : (Str → Option Value) → Heap → Prop} {YP : World → Heap → Prop} {d : DefRec} {K : Params → PySem.W.Frag} (hn : l.most = some 63) (hdf : d.params.defaults = []) (hr : Room k callerA)
    (hY : ∀ (w : World) (h : Heap), YP w h → (K w.params).In h)
    (F : ∀ (w : World) (mg : Str → Option Value) (fa : Addr) (h : Heap), (K w.params).In h → h.Ns mainGlobals mg → mg d.name = some (.ref fa) →
      ∃ fd : FuncData, (∀ (s : Shared) (u : Value), BindsTo s fd ⟨[u], []⟩ [("script", u)]) ∧ ∀ base : Heap, (K w.params).In base → base.Ns mainGlobals mg → FnOk l.prog w (K w.params) mg base (L2.CX l.prog w) k fa fd ["script"] (SpD (K w.params) tLaw)) :
    PySem.W.WalkO q loose XP YP l.row.toRowW d [] (fun f vs => PySem.call f vs) :=
  L2.walk_of (n := 63) (k := k) (x := "script") (CX := fun w => L2.CX l.prog w) (sp := fun w => SpD (K w.params) tLaw) hn (by rw [sizeLine_eq]; decide) hdf hr hY F (fun w H a ns hl _ hS => law_in hl hS) fun w H s e s' h => by
    obtain ⟨_, _, _, _, _, _, _, _, _, _, _, _, z⟩ := h
    exact z
end DL

/-! # DL12: cuts, places of lists -/
namespace DL
open PySem L2
section
variable {γ : Ga} {μ : Mu} {Ξ : XD} {Φ : KD} {Ψ : Bool → Mu → Prop} {Λ : List D → Mu → Prop} {nx bk ct : Ga → Mu → Prop} {rt : KD} {d e : D} {i : Nat}
/-- a cut: what holds behind the first statement -/
theorem dSeq_to {t u : TDS} (M : Ga → Mu → Prop) (h2 : ∀ γ' μ', M γ' μ' → u ⟨nx, rt, bk, ct⟩ γ' μ' Ξ) (h1 : ∀ U : Ga → Mu → Prop, (∀ γ' μ', M γ' μ' → U γ' μ') → t ⟨U, rt, bk, ct⟩ γ μ Ξ) : dSeq t u ⟨nx, rt, bk, ct⟩ γ μ Ξ := h1 _ h2
theorem dVar_x (h : ∃ d, γ[i]? = some (some d) ∧ Φ d μ) : dVar i γ μ Ξ Φ := h
theorem dAug_x {w : TD} {o : OD} (h : ∃ d, γ[i]? = some (some d) ∧ w γ μ Ξ fun y μ1 => o d y μ1 fun z μ2 => nx (γ.set i (some z)) μ2) : dAug i w o ⟨nx, rt, bk, ct⟩ γ μ Ξ := h
theorem atIn {α : Type} {xs : List α} {j : Nat} {x : α} (h : xs[j]? = some x) : atI xs (j : Int) = some x := by
  have hl := (List.getElem?_eq_some_iff.mp h).1
  unfold atI
  have e : ixN xs.length (j : Int) = some j := by
    unfold ixN
    simp
    omega
  rw [e]; exact h
theorem atI_int {α : Type} {xs : List α} {k : Int} (h0 : 0 ≤ k) (h1 : k < xs.length) : ∃ x, x ∈ xs ∧ xs[k.toNat]? = some x ∧ atI xs k = some x := by
  have hl : k.toNat < xs.length := by omega
  refine ⟨xs[k.toNat], List.getElem_mem hl, List.getElem?_eq_getElem hl, ?_⟩
  have := atIn (List.getElem?_eq_getElem hl)
  rwa [Int.toNat_of_nonneg h0] at this
theorem atI_map {α β : Type} {xs : List α} {f : α → β} {k : Int} (h0 : 0 ≤ k) (h1 : k < xs.length) : ∃ x, x ∈ xs ∧ xs[k.toNat]? = some x ∧ atI (xs.map f) k = some (f x) := by
  obtain ⟨x, hx, hg, _⟩ := atI_int h0 h1
  refine ⟨x, hx, hg, ?_⟩
  have := atIn (xs := xs.map f) (j := k.toNat) (x := f x) (by rw [List.getElem?_map, hg]; rfl)
  rwa [Int.toNat_of_nonneg h0] at this
theorem dFrz_i {w : TD} (h : w γ μ Ξ fun d μ1 => ∃ a x, d = .adr a ∧ frzM (μ1 a) = some x ∧ Φ x (delM μ1 a)) : dFrz w γ μ Ξ Φ := h
theorem frzE_l {a : Addr} {xs : List D} {P : Addr → D → Prop} (h : μ a = some (.lst xs)) (k : P a (.lst xs)) : ∃ a' x, D.adr a = .adr a' ∧ frzM (μ a') = some x ∧ P a' x := ⟨a, _, rfl, by rw [h]; rfl, k⟩
theorem iteNT {A B : Prop} (h : B) : if (!true) = true then A else B := by rw [if_neg (by simp)]; exact h
theorem iteNF {A B : Prop} (h : A) : if (!false) = true then A else B := by rw [if_pos (by simp)]; exact h
theorem gIx_i {wo wi : TD} {K' : Ga → Mu → Prop} (h : wo γ μ Ξ fun o μ1 => wi γ μ1 Ξ fun i μ2 => ∃ a xs k j, o = .adr a ∧ i = .int k ∧ μ2 a = some (.lst xs) ∧ ixN xs.length k = some j ∧ K' γ (updM μ2 a (.lst (xs.set j d)))) : gIx wo wi d γ μ Ξ K' := h
theorem gIxE_i {a : Addr} {xs : List D} {k : Int} (j : Nat) {P : Addr → List D → Int → Nat → Prop} (h1 : μ a = some (.lst xs)) (h2 : ixN xs.length k = some j) (h : P a xs k j) : ∃ a' xs' k' j', D.adr a = .adr a' ∧ D.int k = .int k' ∧ μ a' = some (.lst xs') ∧ ixN xs'.length k' = some j' ∧ P a' xs' k' j' := ⟨a, xs, k, j, rfl, rfl, h1, h2, h⟩
/-! comprehensions -/
theorem cNm_mono {i : Nat} : ∀ (d : D) (γ : Ga) (A B : Ga → Prop), (∀ γ', A γ' → B γ') → cNm i d γ A → cNm i d γ B := fun _ _ _ _ h k => h _ k
theorem cTp_mono {is : List Nat} : ∀ (d : D) (γ : Ga) (A B : Ga → Prop), (∀ γ', A γ' → B γ') → cTp is d γ A → cTp is d γ B := fun _ _ _ _ h ⟨ds, a, b, k⟩ => ⟨ds, a, b, h _ k⟩
theorem dYes_mono : ∀ (γ : Ga) (μ : Mu) (A B : Bool → Mu → Prop), (∀ b μ', A b μ' → B b μ') → dYes γ μ X0 A → dYes γ μ X0 B := fun _ _ _ _ h k => h _ _ k
variable {α : Type} {wg : TDC} {wt : TDT} {we : TD} {vs : List Nat} {ds : List D} {G : Mu → Prop} {Λ' : List D → Mu → Prop}
/-- the store changes within M; each item is f of one of Q -/
theorem lc_map (f : α → D) (Q : α → Prop) (M : Mu → Prop) (hz : ds.length ≤ sizeLine) (h0 : M μ) (hG : ∀ μ', M μ' → G μ')
    (hs : ∀ (i : Nat) (d : D) (μ' : Mu), ds[i]? = some d → M μ' → ∀ U : D → Mu → Prop, (∀ x μ2, Q x → M μ2 → U (f x) μ2) → wg d (wipeG γ vs) fun γ2 => wt γ2 μ' X0 fun b μ3 => if b = true then we γ2 μ3 X0 U else False)
    (he : ∀ ys : List α, ∀ μ', ys.length = ds.length → (∀ y ∈ ys, Q y) → M μ' → Λ' (ys.map f) μ')
    (mg : ∀ d γ (A B : Ga → Prop), (∀ γ', A γ' → B γ') → wg d γ A → wg d γ B := by first | exact cNm_mono | exact cTp_mono)
    (mt : ∀ γ μ (A B : Bool → Mu → Prop), (∀ b μ', A b μ' → B b μ') → wt γ μ X0 A → wt γ μ X0 B := by exact dYes_mono) : dLcT wg wt we vs γ ds G μ Λ' := by
  refine ⟨fun i acc μ' => i ≤ ds.length ∧ ∃ ys : List α, acc = ys.map f ∧ ys.length = i ∧ (∀ y ∈ ys, Q y) ∧ M μ', ⟨Nat.zero_le _, [], rfl, rfl, by simp, h0⟩, fun i acc μ' ⟨_, _, _, _, _, h⟩ => hG μ' h, ?_, ?_⟩
  · rintro i d acc μ' hd ⟨_, ys, rfl, hl, hq, hm⟩
    have hi := (List.getElem?_eq_some_iff.mp hd).1
    refine mg _ _ _ _ (fun γ2 k => mt _ _ _ _ (fun b μ3 k => ?_) k) (hs i d μ' hd hm (fun e μ4 => (ys.map f).length < sizeLine ∧ i + 1 ≤ ds.length ∧ ∃ zs : List α, ys.map f ++ [e] = zs.map f ∧ zs.length = i + 1 ∧ (∀ y ∈ zs, Q y) ∧ M μ4) fun x μ2 hx hm2 => ⟨by rw [List.length_map]; omega, by omega, ys ++ [x], by simp, by simp [hl], fun y hy => ?_, hm2⟩)
    · cases b with
      | true => rw [if_pos rfl] at k ⊢; exact k
      | false => rw [if_neg Bool.false_ne_true] at k; exact k.elim
    · rcases List.mem_append.mp hy with h | h
      · exact hq y h
      · simp at h; subst h; exact hx
  · rintro acc μ' ⟨_, ys, rfl, hl, hq, hm⟩
    exact he ys μ' hl hq hm
/-- the store stays; the kept ones of p -/
theorem lc_filter {xs : List α} (f g : α → D) (p : α → Bool) (hz : xs.length ≤ sizeLine) (hG : G μ)
    (hs : ∀ x, x ∈ xs → ∀ U : Option D → Mu → Prop, U (if p x = true then some (g x) else none) μ → wg (f x) (wipeG γ vs) fun γ2 => wt γ2 μ X0 fun b μ3 => if b = true then we γ2 μ3 X0 fun e => U (some e) else U none μ3)
    (he : Λ' ((xs.filter p).map g) μ) : dLcT wg wt we vs γ (xs.map f) G μ Λ' := by
  have pre : ∀ i : Nat, ((xs.take i).filter p).length ≤ i := fun i => Nat.le_trans (List.length_filter_le ..) (by simp; omega)
  refine ⟨fun i acc μ' => acc = ((xs.take i).filter p).map g ∧ μ' = μ, ⟨by simp, rfl⟩, fun i acc μ' ⟨_, h⟩ => h ▸ hG, ?_, ?_⟩
  · rintro i d acc μ' hd ⟨ha, hm⟩
    subst ha
    subst hm
    rw [List.getElem?_map] at hd
    cases hx : xs[i]? with
    | none => rw [hx] at hd; cases hd
    | some x =>
      rw [hx] at hd
      cases hd
      have hi := (List.getElem?_eq_some_iff.mp hx).1
      have e1 : xs.take (i + 1) = xs.take i ++ [x] := by rw [List.take_succ, hx]; rfl
      have hq := hs x (List.mem_of_getElem? hx) (fun o μ4 => match o with
        | some e => (((xs.take i).filter p).map g).length < sizeLine ∧ ((xs.take i).filter p).map g ++ [e] = ((xs.take (i + 1)).filter p).map g ∧ μ4 = μ'
        | none => ((xs.take i).filter p).map g = ((xs.take (i + 1)).filter p).map g ∧ μ4 = μ') (by
          rw [e1, List.filter_append]
          by_cases q : p x = true
          · rw [if_pos q]
            have := pre i
            exact ⟨by rw [List.length_map]; omega, by simp [List.filter_cons, q], rfl⟩
          · rw [if_neg q]
            exact ⟨by simp [List.filter_cons, q], rfl⟩)
      exact hq
  · rintro acc μ' ⟨rfl, rfl⟩
    have : (xs.map f).length = xs.length := List.length_map ..
    rw [this, List.take_of_length_le (Nat.le_refl _)]
    exact he
theorem lc_pure {xs : List α} (f g : α → D) (hz : xs.length ≤ sizeLine) (hG : G μ)
    (hs : ∀ x, x ∈ xs → ∀ U : Option D → Mu → Prop, U (some (g x)) μ → wg (f x) (wipeG γ vs) fun γ2 => wt γ2 μ X0 fun b μ3 => if b = true then we γ2 μ3 X0 fun e => U (some e) else U none μ3)
    (he : Λ' (xs.map g) μ) : dLcT wg wt we vs γ (xs.map f) G μ Λ' :=
  lc_filter f g (fun _ => true) hz hG (fun x hx U h => hs x hx U (by rw [if_pos rfl] at h; exact h)) (by rw [List.filter_eq_self.mpr (fun _ _ => rfl)]; exact he)
end
end DL

/-! # DL13: dicts -/
namespace DL
open PySem L2

/-! ### tables -/
section
variable {κ : Type} [DecidableEq κ]
def valD (es : List (κ × D)) (k : κ) : Option D := (es.find? fun e => decide (e.1 = k)).map (·.2)
def putKD (es : List (κ × D)) (k : κ) (d : D) : List (κ × D) := if (es.any fun e => decide (e.1 = k)) = true then es.map (fun e => if e.1 = k then (e.1, d) else e) else es ++ [(k, d)]
def dropKD (es : List (κ × D)) (k : κ) : List (κ × D) := es.filter fun e => decide (e.1 ≠ k)
theorem valD_nil {k : κ} : valD ([] : List (κ × D)) k = none := rfl
theorem valD_pos {p : κ × D} {r : List (κ × D)} {k : κ} (e : p.1 = k) : valD (p :: r) k = some p.2 := by simp [valD, List.find?_cons, e]
theorem valD_neg {p : κ × D} {r : List (κ × D)} {k : κ} (e : ¬ p.1 = k) : valD (p :: r) k = valD r k := by simp [valD, List.find?_cons, e]
theorem anyD (es : List (κ × D)) (k : κ) : (es.any fun e => decide (e.1 = k)) = (valD es k).isSome := by
  induction es with
  | nil => rfl
  | cons p r ih =>
    rw [List.any_cons]
    by_cases e : p.1 = k
    · simp only [valD_pos e, decide_eq_true e, Bool.true_or, Option.isSome_some]
    · rw [valD_neg e, decide_eq_false e, Bool.false_or]; exact ih
theorem putKD_new {es : List (κ × D)} {k : κ} (d : D) (h : valD es k = none) : putKD es k d = es ++ [(k, d)] := by
  unfold putKD
  rw [anyD, h]
  exact if_neg (by decide)
/-- a table and its reading -/
abbrev Tab (K : PySem.W.Frag) (S : Hp) (kvs : List (κ × V)) (es : List (κ × D)) : Prop := kvs.map (·.1) = es.map (·.1) ∧ AtL K S (kvs.map (·.2)) (es.map (·.2))
variable {K : PySem.W.Frag} {S S' : Hp}
theorem Tab.nil : Tab K S ([] : List (κ × V)) [] := ⟨rfl, .nil⟩
theorem Tab.cons {k : κ} {v : V} {d : D} {kvs : List (κ × V)} {es : List (κ × D)} (a : At K S v d) (t : Tab K S kvs es) : Tab K S ((k, v) :: kvs) ((k, d) :: es) := ⟨by simp [t.1], .cons a t.2⟩
theorem Tab.mono {kvs : List (κ × V)} {es : List (κ × D)} (l : Le S S') (t : Tab K S kvs es) : Tab K S' kvs es := ⟨t.1, t.2.mono l⟩
theorem Tab.length {kvs : List (κ × V)} {es : List (κ × D)} (t : Tab K S kvs es) : kvs.length = es.length := by simpa using congrArg List.length t.1
/-- the two ends of a table -/
theorem tab_cases {kvs : List (κ × V)} {es : List (κ × D)} (t : Tab K S kvs es) : (kvs = [] ∧ es = []) ∨ ∃ k v d kvs' es', kvs = (k, v) :: kvs' ∧ es = (k, d) :: es' ∧ At K S v d ∧ Tab K S kvs' es' := by
  cases kvs with
  | nil => cases es with
    | nil => exact .inl ⟨rfl, rfl⟩
    | cons e es => have := t.1; simp at this
  | cons p kvs => cases es with
    | nil => have := t.1; simp at this
    | cons e es =>
      obtain ⟨k, v⟩ := p
      obtain ⟨k', d⟩ := e
      have h1 := t.1
      simp only [List.map_cons, List.cons.injEq] at h1
      obtain ⟨rfl, h1⟩ := h1
      exact .inr ⟨k, v, d, kvs, es, rfl, rfl, t.2.head, h1, t.2.tail⟩
theorem tab_ind {P : List (κ × V) → List (κ × D) → Prop} (h0 : P [] []) (h1 : ∀ k v d kvs es, At K S v d → Tab K S kvs es → P kvs es → P ((k, v) :: kvs) ((k, d) :: es)) : ∀ {kvs : List (κ × V)} {es : List (κ × D)}, Tab K S kvs es → P kvs es := by
  intro kvs
  induction kvs with
  | nil =>
    intro es t
    rcases tab_cases t with ⟨_, rfl⟩ | ⟨_, _, _, _, _, e, _⟩
    · exact h0
    · cases e
  | cons p kvs ih =>
    intro es t
    rcases tab_cases t with ⟨e, _⟩ | ⟨k, v, d, kvs', es', e, rfl, a, t'⟩
    · cases e
    · cases e
      exact h1 k v d _ _ a t' (ih t')
theorem Tab.some {kvs : List (κ × V)} {es : List (κ × D)} (t : Tab K S kvs es) {k : κ} {d : D} (h : valD es k = some d) : ∃ v, valV kvs k = some v ∧ At K S v d := by
  revert h
  refine tab_ind (P := fun kvs es => valD es k = Option.some d → ∃ v, valV kvs k = Option.some v ∧ At K S v d) (fun h => by cases h) (fun k' v' d' kvs es a t ih h => ?_) t
  by_cases e : k' = k
  · rw [valD_pos (p := (k', d')) e] at h
    cases h
    exact ⟨v', valV_pos (p := (k', v')) e, a⟩
  · rw [valD_neg (p := (k', d')) e] at h
    obtain ⟨v, h1, h2⟩ := ih h
    exact ⟨v, by rw [valV_neg (p := (k', v')) e]; exact h1, h2⟩
theorem Tab.none {kvs : List (κ × V)} {es : List (κ × D)} (t : Tab K S kvs es) {k : κ} (h : valD es k = Option.none) : valV kvs k = Option.none := by
  revert h
  refine tab_ind (P := fun kvs es => valD es k = Option.none → valV kvs k = Option.none) (fun h => rfl) (fun k' v' d' kvs es a t ih h => ?_) t
  by_cases e : k' = k
  · rw [valD_pos (p := (k', d')) e] at h; cases h
  · rw [valD_neg (p := (k', d')) e] at h
    rw [valV_neg (p := (k', v')) e]; exact ih h
theorem Tab.isSome {kvs : List (κ × V)} {es : List (κ × D)} (t : Tab K S kvs es) {k : κ} : (valV kvs k).isSome = (valD es k).isSome := by
  cases e : valD es k with
  | none => rw [t.none e]; rfl
  | some d => obtain ⟨v, h, _⟩ := t.some e; rw [h]; rfl
theorem Tab.repl {kvs : List (κ × V)} {es : List (κ × D)} (t : Tab K S kvs es) (k : κ) {v : V} {d : D} (a : At K S v d) : Tab K S (kvs.map fun e => if e.1 = k then (e.1, v) else e) (es.map fun e => if e.1 = k then (e.1, d) else e) := by
  refine tab_ind (P := fun kvs es => Tab K S (kvs.map fun e => if e.1 = k then (e.1, v) else e) (es.map fun e => if e.1 = k then (e.1, d) else e)) .nil (fun k' v' d' kvs es a' t ih => ?_) t
  rw [List.map_cons, List.map_cons]
  by_cases e : k' = k
  · rw [if_pos e, if_pos e]; exact .cons a ih
  · rw [if_neg e, if_neg e]; exact .cons a' ih
theorem Tab.snoc {kvs : List (κ × V)} {es : List (κ × D)} (t : Tab K S kvs es) (k : κ) {v : V} {d : D} (a : At K S v d) : Tab K S (kvs ++ [(k, v)]) (es ++ [(k, d)]) := by
  refine tab_ind (P := fun kvs es => Tab K S (kvs ++ [(k, v)]) (es ++ [(k, d)])) (.cons a .nil) (fun k' v' d' kvs es a' t ih => ?_) t
  exact .cons a' ih
theorem Tab.put {kvs : List (κ × V)} {es : List (κ × D)} (t : Tab K S kvs es) (k : κ) {v : V} {d : D} (a : At K S v d) : Tab K S (putK kvs k v) (putKD es k d) := by
  unfold putK putKD
  rw [valV_any, anyD, t.isSome]
  by_cases q : (valD es k).isSome = true
  · rw [if_pos q, if_pos q]; exact t.repl k a
  · rw [if_neg q, if_neg q]; exact t.snoc k a
theorem Tab.drop {kvs : List (κ × V)} {es : List (κ × D)} (t : Tab K S kvs es) (k : κ) : Tab K S (dropK kvs k) (dropKD es k) := by
  refine tab_ind (P := fun kvs es => Tab K S (dropK kvs k) (dropKD es k)) .nil (fun k' v' d' kvs es a' t ih => ?_) t
  unfold dropK dropKD at ih ⊢
  rw [List.filter_cons, List.filter_cons]
  by_cases e : k' = k
  · have q : ¬ decide (k' ≠ k) = true := by simp [e]
    rw [if_neg q, if_neg q]; exact ih
  · have q : decide (k' ≠ k) = true := by simp [e]
    rw [if_pos q, if_pos q]; exact .cons a' ih
end

/-! ### the dict that a value stands for -/
def dKM : Option MO → Option (List (Key × D))
  | some (.dK es) => some es
  | some (.lK _ _ es) => some es
  | _ => none
def dTM : Option MO → Option (List (List Key × D))
  | some (.dT es) => some es
  | some (.lT _ _ es) => some es
  | _ => none
def dKD (μ : Mu) : D → Option (List (Key × D))
  | .dK es => some es
  | .adr a => dKM (μ a)
  | _ => none
def dTD (μ : Mu) : D → Option (List (List Key × D))
  | .dT es => some es
  | .adr a => dTM (μ a)
  | _ => none
def keyD : D → Option Key
  | .int i => some (.inl i)
  | .str x => some (.inr x)
  | _ => none
def keysD : List D → Option (List Key)
  | [] => some []
  | d :: ds => match keyD d, keysD ds with
    | some k, some ks => some (k :: ks)
    | _, _ => none
def tkeyD : D → Option (List Key)
  | .tup ds => keysD ds
  | _ => none
/-- what the dict holds at a key -/
def dGetD (μ : Mu) (x y : D) : Option (Option D) :=
  match keyD y with
  | some k => (dKD μ x).map fun es => valD es k
  | none => match tkeyD y with
    | some k => (dTD μ x).map fun es => valD es k
    | none => none
section
variable {K : PySem.W.Frag} {S H : Hp} {μ F : Mu} {v u : V} {d e : D}
theorem key_at (a : At K S v d) {k : Key} (h : keyD d = some k) : v = kV k := by
  cases d with
  | int i => cases h; cases a; rfl
  | str x => cases h; cases a; rfl
  | _ => cases h
theorem keys_at : ∀ {ds : List D} {vs : List V} {ks : List Key}, AtL K S vs ds → keysD ds = some ks → vs = ks.map kV
  | [], vs, ks, a, h => by
    cases h
    have := a.1
    cases vs with
    | nil => rfl
    | cons v vs => simp at this
  | d :: ds, vs, ks, a, h => by
    cases vs with
    | nil => have := a.1; simp at this
    | cons v vs =>
      unfold keysD at h
      cases h1 : keyD d with
      | none => rw [h1] at h; cases h
      | some k =>
        cases h2 : keysD ds with
        | none => rw [h1, h2] at h; cases h
        | some ks' =>
          rw [h1, h2] at h
          cases h
          rw [key_at a.head h1, keys_at a.tail h2]; rfl
theorem tkey_at (r : R K S H μ F) (a : At K S v d) {k : List Key} (h : tkeyD d = some k) : ∃ b, v = .ref b ∧ H b = some (.tup (k.map kV)) := by
  cases d with
  | tup ds =>
    cases a with
    | @tup p vs _ hs hl hi =>
      have e := keys_at (K := K) (S := S) ⟨hl, hi⟩ h
      subst e
      exact ⟨p, rfl, r.tup hs⟩
  | _ => cases h
theorem dK_at (r : R K S H μ F) (a : At K S v d) {es : List (Key × D)} (h : dKD μ d = some es) : ∃ p kvs, v = .ref p ∧ Rd H p (.dK kvs) ∧ Tab K S kvs es := by
  cases a with
  | @dK p ob kvs _ hs hk hi => cases h; exact ⟨p, kvs, rfl, .inr ⟨ob, r.imm p _ hs⟩, hk, by simpa using congrArg List.length hk, hi⟩
  | adr p =>
    have h : dKM (μ p) = some es := h
    cases hm : μ p with
    | none => rw [hm] at h; cases h
    | some m =>
      rw [hm] at h
      obtain ⟨_, o, ho, hmt⟩ := r.sto p m hm
      cases m with
      | dK es' => cases h; obtain ⟨kvs, rfl, q⟩ := hmt.dK_inv; exact ⟨p, kvs, rfl, .inl ho, q⟩
      | lK ob kvs es' => cases h; obtain ⟨rfl, q⟩ := hmt.lK_inv; exact ⟨p, kvs, rfl, .inr ⟨ob, ho⟩, q⟩
      | _ => cases h
  | _ => cases h
theorem dT_at (r : R K S H μ F) (a : At K S v d) {es : List (List Key × D)} (h : dTD μ d = some es) : ∃ p kvs, v = .ref p ∧ Rd H p (.dT kvs) ∧ Tab K S kvs es := by
  cases a with
  | @dT p ob kvs _ hs hk hi => cases h; exact ⟨p, kvs, rfl, .inr ⟨ob, r.imm p _ hs⟩, hk, by simpa using congrArg List.length hk, hi⟩
  | adr p =>
    have h : dTM (μ p) = some es := h
    cases hm : μ p with
    | none => rw [hm] at h; cases h
    | some m =>
      rw [hm] at h
      obtain ⟨_, o, ho, hmt⟩ := r.sto p m hm
      cases m with
      | dT es' => cases h; obtain ⟨kvs, rfl, q⟩ := hmt.dT_inv; exact ⟨p, kvs, rfl, .inl ho, q⟩
      | lT ob kvs es' => cases h; obtain ⟨rfl, q⟩ := hmt.lT_inv; exact ⟨p, kvs, rfl, .inr ⟨ob, ho⟩, q⟩
      | _ => cases h
  | _ => cases h
theorem dget_at (r : R K S H μ F) (a : At K S v d) (b : At K S u e) {o : Option D} (h : dGetD μ d e = some o) : ∃ p ov, v = .ref p ∧ DGet H p u ov ∧ IsD H p ∧ ov.isSome = o.isSome ∧ ∀ y, o = some y → ∃ w, ov = some w ∧ At K S w y := by
  unfold dGetD at h
  cases h1 : keyD e with
  | some k =>
    rw [h1] at h
    cases h2 : dKD μ d with
    | none => rw [h2] at h; cases h
    | some es =>
      rw [h2] at h
      cases h
      obtain ⟨p, kvs, rfl, hr, t⟩ := dK_at r a h2
      exact ⟨p, valV kvs k, rfl, .inl ⟨kvs, k, hr, key_at b h1, rfl⟩, .inl ⟨kvs, hr⟩, t.isSome, fun y hy => t.some hy⟩
  | none =>
    rw [h1] at h
    cases h3 : tkeyD e with
    | none => rw [h3] at h; cases h
    | some k =>
      rw [h3] at h
      cases h2 : dTD μ d with
      | none => rw [h2] at h; cases h
      | some es =>
        rw [h2] at h
        cases h
        obtain ⟨p, kvs, rfl, hr, t⟩ := dT_at r a h2
        obtain ⟨q, rfl, hq⟩ := tkey_at r b h3
        exact ⟨p, valV kvs k, rfl, .inr ⟨kvs, k, q, hr, rfl, hq, rfl⟩, .inr ⟨kvs, hr⟩, t.isSome, fun y hy => t.some hy⟩
end
theorem huD {A : Around} {k : Nat} (hr : Room k A) : A.units + 1 < cLine := Nat.lt_of_le_of_lt (Nat.add_le_add_left (by decide : 1 ≤ 64) _) hr.units
section
variable {X : Cx} {W : WX} {pos : Pos}
/-- d[k] -/
def oDGet : OD := fun x y μ Φ => ∃ z, dGetD μ x y = some (some z) ∧ Φ z μ
theorem e_dget {o i : Expr} {wo wi : TD} (hu : X.A.units + 1 < cLine) (ho : PE X o (tD X.K W wo)) (hi : PE X i (tD X.K W wi)) (hs : NoSl i := by exact fun _ _ => rfl) : PE X (.Subscript o i pos) (tD X.K W (dOp oDGet wo wi)) :=
  pe_imp (pe_dget hu ho hi hs) fun σ H Q ⟨S, γ, μ, F, Ξ, Φ, hE, hR, hX, hw, hq⟩ => ⟨S, γ, μ, F, Ξ, _, hE, hR, hX, hw, fun S1 H1 v d μ1 l1 r1 a1 q1 => ⟨S1, γ, μ1, F, Ξ, _, hE.mono l1, r1, hX.mono l1, q1, fun S2 H2 u e μ2 l2 r2 a2 ⟨z, h, q2⟩ => by
    obtain ⟨p, ov, rfl, g, _, _, hs⟩ := dget_at r2 (a1.mono l2) a2 h
    obtain ⟨w, rfl, aw⟩ := hs z rfl
    exact ⟨p, w, rfl, g, hq S2 H2 w z μ2 (l1.trans l2) r2 aw q2⟩⟩⟩
/-- k in d, k not in d -/
def rInDct (neg : Bool) : R2 := fun y x H Q => ∃ a o, x = .ref a ∧ DGet H a y o ∧ Q (.bl (if neg then !o.isSome else o.isSome)) H
theorem op_inDct (hu : X.A.units + 1 < cLine) : OpR X (compareOp .In) (rInDct false) := by
  intro pins s σ H x y v u Q I rx ry ⟨a, o, e, g, q⟩
  subst e
  obtain rfl : u = Value.ref a := ry
  exact d_in hu I g rx fun s3 I3 => ⟨.bl o.isSome, H, I3, rfl, q⟩
theorem op_notInDct (hu : X.A.units + 1 < cLine) : OpR X (compareOp .NotIn) (rInDct true) := by
  intro pins s σ H x y v u Q I rx ry ⟨a, o, e, g, q⟩
  subst e
  obtain rfl : u = Value.ref a := ry
  exact d_notIn hu I g rx fun s3 I3 => ⟨.bl (!o.isSome), H, I3, rfl, q⟩
def oInDct (neg : Bool) : OD := fun y x μ Φ => ∃ o, dGetD μ x y = some o ∧ Φ (.bl (if neg then !o.isSome else o.isSome)) μ
theorem od_inDct {K : PySem.W.Frag} {neg : Bool} : OpD K (rInDct neg) (oInDct neg) := by
  intro S H μ F y x e d Φ Q r ay ax ⟨o, h, q⟩ k
  obtain ⟨p, ov, rfl, g, _, hs, _⟩ := dget_at r ax ay h
  exact ⟨p, ov, rfl, g, by rw [hs]; exact k S H _ _ μ (Le.refl S) r (.bl _) q⟩
/-- d.get(k, x) -/
def isDct (μ : Mu) (d : D) : Prop := (∃ es, dKD μ d = some es) ∨ ∃ es, dTD μ d = some es
theorem isDct_at {K : PySem.W.Frag} {S H : Hp} {μ F : Mu} {v : V} {d : D} (r : R K S H μ F) (a : At K S v d) (h : isDct μ d) : ∃ p, v = .ref p ∧ IsD H p := by
  rcases h with ⟨es, h⟩ | ⟨es, h⟩
  · obtain ⟨p, kvs, rfl, hr, _⟩ := dK_at r a h; exact ⟨p, rfl, .inl ⟨kvs, hr⟩⟩
  · obtain ⟨p, kvs, rfl, hr, _⟩ := dT_at r a h; exact ⟨p, rfl, .inr ⟨kvs, hr⟩⟩
def dDGet2 (wo wi wx : TD) : TD := fun γ μ Ξ Φ => wo γ μ Ξ fun d μ1 => isDct μ1 d ∧ wi γ μ1 Ξ fun e μ2 => wx γ μ2 Ξ fun z μ3 => ∃ o, dGetD μ3 d e = some o ∧ Φ (o.getD z) μ3
theorem e_dget2 {o e f : Expr} {apos cpos : Pos} {wo wi wx : TD} (hu : X.A.units + 1 < cLine) (ho : PE X o (tD X.K W wo)) (he : PE X e (tD X.K W wi)) (hf : PE X f (tD X.K W wx)) (m : M2 X o "get" apos e f cpos := by exact ⟨rfl, rfl, rfl, rfl⟩) :
    PE X (.Call (.Attribute o "get" apos) [e, f] [] cpos) (tD X.K W (dDGet2 wo wi wx)) :=
  pe_imp (pe_dget2 hu ho he hf m) fun σ H Q ⟨S, γ, μ, F, Ξ, Φ, hE, hR, hX, hw, hq⟩ => ⟨S, γ, μ, F, Ξ, _, hE, hR, hX, hw, fun S1 H1 v d μ1 l1 r1 a1 ⟨hd, q1⟩ => by
    obtain ⟨p, rfl, isd⟩ := isDct_at r1 a1 hd
    refine ⟨p, rfl, isd, S1, γ, μ1, F, Ξ, _, hE.mono l1, r1, hX.mono l1, q1, fun S2 H2 u e μ2 l2 r2 a2 q2 => ⟨S2, γ, μ2, F, Ξ, _, hE.mono (l1.trans l2), r2, hX.mono (l1.trans l2), q2, fun S3 H3 x z μ3 l3 r3 a3 ⟨o, h, q3⟩ => ?_⟩⟩
    obtain ⟨p', ov, e1, g, _, hs, hv⟩ := dget_at r3 (a1.mono (l2.trans l3)) (a2.mono l3) h
    cases e1
    refine ⟨ov, g, ?_⟩
    cases o with
    | none =>
      cases ov with
      | none => exact hq S3 H3 x z μ3 (l1.trans (l2.trans l3)) r3 a3 q3
      | some w => cases hs
    | some y =>
      obtain ⟨w, rfl, aw⟩ := hv y rfl
      exact hq S3 H3 w y μ3 (l1.trans (l2.trans l3)) r3 aw q3⟩
/-- {} -/
def dNewK : TD := fun _ μ _ Φ => ∀ p, μ p = none → Φ (.adr p) (updM μ p (.dK []))
def dNewT : TD := fun _ μ _ Φ => ∀ p, μ p = none → Φ (.adr p) (updM μ p (.dT []))
theorem e_newK : PE X (.Dict [] [] pos) (tD X.K W dNewK) :=
  pe_imp pe_dnewK fun σ H Q ⟨S, γ, μ, F, Ξ, Φ, hE, hR, hX, hw, hq⟩ => fun p hp => hq S _ _ _ _ (Le.refl S) (hR.newM (m := .dK []) hp Tab.nil) (.adr p) (hw p (hR.freeM hp))
theorem e_newT : PE X (.Dict [] [] pos) (tD X.K W dNewT) :=
  pe_imp pe_dnewT fun σ H Q ⟨S, γ, μ, F, Ξ, Φ, hE, hR, hX, hw, hq⟩ => fun p hp => hq S _ _ _ _ (Le.refl S) (hR.newM (m := .dT []) hp Tab.nil) (.adr p) (hw p (hR.freeM hp))
/-- o[i] = v of a dict of the store -/
def gDx (wo wi : TD) : TDG := fun d γ μ Ξ Φ => wo γ μ Ξ fun o μ1 => wi γ μ1 Ξ fun i μ2 => ∃ a, o = .adr a ∧
  ((∃ es k, μ2 a = some (.dK es) ∧ keyD i = some k ∧ es.length < sizeLine ∧ Φ γ (updM μ2 a (.dK (putKD es k d)))) ∨ ∃ es k, μ2 a = some (.dT es) ∧ tkeyD i = some k ∧ es.length < sizeLine ∧ Φ γ (updM μ2 a (.dT (putKD es k d))))
theorem g_dx {o i : Expr} {wo wi : TD} (hu : X.A.units + 1 < cLine) (ho : PE X o (tD X.K W wo)) (hi : PE X i (tD X.K W wi)) (hs : ∀ v, assign (.Subscript o i pos) X.env v = (do
      let ov ← holding [v] (eval o X.env)
      let iv ← holding [v, ov] (eval i X.env)
      standAt pos
      holding [v, ov, iv] (setItem ov iv v)
      release [v, ov, iv] []) := by intro _; rfl) : PG X (.Subscript o i pos) (tDG X.K W (gDx wo wi)) :=
  pg_imp (pg_sub ho hi (set_dict hu) hs) fun v σ H Q ⟨S, γ, μ, F, Ξ, Φ, d, hE, hR, hX, ad, hw, hq⟩ => ⟨S, γ, μ, F, Ξ, _, hE, hR, hX, hw, fun S1 H1 ov od μ1 l1 r1 a1 q1 =>
    ⟨S1, γ, μ1, F, Ξ, _, hE.mono l1, r1, hX.mono l1, q1, fun S2 H2 iv id μ2 l2 r2 a2 ⟨a, e1, q2⟩ => by
      subst e1
      obtain rfl := (a1.mono l2).adr_inv
      rcases q2 with ⟨es, k, hm, hk, hz, q3⟩ | ⟨es, k, hm, hk, hz, q3⟩
      · obtain ⟨_, ob, hob, hmt⟩ := r2.sto a _ hm
        obtain ⟨kvs, rfl, t⟩ := hmt.dK_inv
        obtain rfl := key_at a2 hk
        refine ⟨a, _, rfl, .inl ⟨kvs, k, hob, rfl, by rw [Tab.length t]; exact hz, rfl⟩, ?_⟩
        exact hq S2 _ σ γ _ (l1.trans l2) (hE.mono (l1.trans l2)) (r2.write (m := .dK (putKD es k d)) hm (Tab.put t k (ad.mono (l1.trans l2)))) q3
      · obtain ⟨_, ob, hob, hmt⟩ := r2.sto a _ hm
        obtain ⟨kvs, rfl, t⟩ := hmt.dT_inv
        obtain ⟨b, rfl, hb⟩ := tkey_at r2 a2 hk
        refine ⟨a, _, rfl, .inr ⟨kvs, k, b, hob, rfl, hb, by rw [Tab.length t]; exact hz, rfl⟩, ?_⟩
        exact hq S2 _ σ γ _ (l1.trans l2) (hE.mono (l1.trans l2)) (r2.write (m := .dT (putKD es k d)) hm (Tab.put t k (ad.mono (l1.trans l2)))) q3⟩⟩
/-- len(d) -/
def rLenDk : List V → Hp → VK → Prop := fun xs H Q => ∃ a kvs, xs = [V.ref a] ∧ Rd H a (.dK kvs) ∧ Q (.int kvs.length) H
theorem call_lenDk : CallR X (.builtin "len") rLenDk := by
  intro pins s σ H xs us Q I r h
  obtain ⟨a, kvs, rfl, ha, q⟩ := h
  obtain ⟨u, rfl, ru⟩ := vals1 r
  cases ru
  exact d_len I ha fun t s' I' => ⟨.int kvs.length, H, I', ⟨t, rfl⟩, q⟩
def bLenDk : BF := fun ds μ Φ => ∃ d es, ds = [d] ∧ dKD μ d = some es ∧ Φ (.int es.length) μ
theorem bd_lenDk {K : PySem.W.Frag} : BiD K rLenDk bLenDk := by
  rintro S H μ F vs ds Φ Q r a ⟨d, es, rfl, h, q⟩ k
  obtain ⟨v, rfl, av⟩ := atL1 a
  obtain ⟨p, kvs, rfl, hr, t⟩ := dK_at r av h
  exact ⟨p, kvs, rfl, hr, by rw [Tab.length t]; exact k S H _ _ μ (Le.refl S) r (.int _) q⟩
/-- d.pop(k), there -/
def dDPop (wo wi : TD) : TD := fun γ μ Ξ Φ => wo γ μ Ξ fun d μ1 => ∃ a es0, d = .adr a ∧ μ1 a = some (.dK es0) ∧ wi γ μ1 Ξ fun e μ2 => ∃ es k z, μ2 a = some (.dK es) ∧ keyD e = some k ∧ valD es k = some z ∧ Φ z (updM μ2 a (.dK (dropKD es k)))
theorem e_dpop {o e : Expr} {apos cpos : Pos} {wo wi : TD} (ho : PE X o (tD X.K W wo)) (he : PE X e (tD X.K W wi)) (m : M1 X o "pop" apos e cpos := by exact ⟨rfl, rfl, rfl, rfl⟩) :
    PE X (.Call (.Attribute o "pop" apos) [e] [] cpos) (tD X.K W (dDPop wo wi)) :=
  pe_imp (pe_dpop1 ho he m) fun σ H Q ⟨S, γ, μ, F, Ξ, Φ, hE, hR, hX, hw, hq⟩ => ⟨S, γ, μ, F, Ξ, _, hE, hR, hX, hw, fun S1 H1 v d μ1 l1 r1 a1 ⟨a, es0, e1, hm0, q1⟩ => by
    subst e1
    obtain rfl := a1.adr_inv
    obtain ⟨_, ob0, hob0, hmt0⟩ := r1.sto a _ hm0
    obtain ⟨kvs0, rfl, t0⟩ := hmt0.dK_inv
    refine ⟨a, rfl, .inl ⟨kvs0, .inl hob0⟩, S1, γ, μ1, F, Ξ, _, hE.mono l1, r1, hX.mono l1, q1, fun S2 H2 u e μ2 l2 r2 a2 ⟨es, k, z, hm, hk, hv, q2⟩ => ?_⟩
    obtain ⟨_, ob, hob, hmt⟩ := r2.sto a _ hm
    obtain ⟨kvs, rfl, t⟩ := hmt.dK_inv
    obtain ⟨w, h1, aw⟩ := Tab.some t hv
    exact ⟨kvs, k, w, hob, key_at a2 hk, h1, hq S2 _ w z _ (l1.trans l2) (r2.write (m := .dK (dropKD es k)) hm (Tab.drop t k)) aw q2⟩⟩
end
end DL

/-! # DL14: o[i] and o[i] = v of own classes, chains, methods of texts, count, index, insert -/
namespace DL
open PySem L2
section
variable {X : Cx} {W : WX} {pos : Pos} {C f : Addr} {n : Nat} {w : TF}
/-! ### o[i], o[i] = v of an own class -/
theorem pe_ownIx {o i : Expr} {to ti : TE} {sp : Sp} {Ew : L2.St → XK} (hm : OwnM X.K C "__getitem__" f) (hf : PySem.W.fnIn X.K f = true) (F : FnR X.prog X.w X.K X.mg X.base (L2.CX X.prog X.w) n f sp) (hr : Room (n + 1) X.A) (hx : ∀ σ, PassesAt (L2.CX X.prog X.w) X σ (Ew σ)) (ho : PE X o to) (hi : PE X i ti)
    (hsl : ∀ x i', subscripted i true (.ref x) i' = runValue (.builtin "lifetime.subscript" ⟨[.ref x, i'], []⟩) := by intro _ _; with_unfolding_all rfl) : PE X (.Subscript o i pos) (fun σ H Q => to σ H fun x H1 => ti σ H1 fun y H2 => ∃ a, x = .ref a ∧ InsAt H2 C a ∧ sp [x, y] H2 Q (Ew σ)) := by
  refine ⟨fun pins s σ H Q I h => ?_⟩
  refine PyProof.Rows.Subscript_ (thn (ho.run pins s σ H _ I h) fun ov s1 ⟨x, H1, I1, rx, q1⟩ => thn (hi.run pins s1 σ H1 _ I1 q1) fun iv s2 ⟨y, H2, I2, ry, p, ex, ia, hsp⟩ => ?_)
  subst ex
  obtain rfl : ov = Value.ref p := rx
  obtain ⟨od, J⟩ := ins_at I2 ia
  obtain ⟨m, hF⟩ := I2.fr
  exact PySem.W.sub_K hF I2.ok.mod.kin J hm.at_ hf hm.fn (run_sub (vs := [V.ref p, y]) F ⟨hr.in1, rfl⟩ (hx σ) I2 (.cons rfl (.cons ry .nil)) hsp) (hsl _ _)
theorem pg_ownIx {o i : Expr} {to ti : TE} {sp : Sp} {Ew : L2.St → XK} (hm : OwnM X.K C "__setitem__" f) (hq0 : PySem.W.noSeq X.K C = true) (F : FnR X.prog X.w X.K X.mg X.base (L2.CX X.prog X.w) n f sp) (hr : Room n X.A) (hx : ∀ σ, PassesAt (L2.CX X.prog X.w) X σ (Ew σ)) (ho : PE X o to) (hi : PE X i ti)
    (ha : ∀ v, assign (.Subscript o i pos) X.env v = (do
      let ov ← holding [v] (eval o X.env)
      let iv ← holding [v, ov] (eval i X.env)
      standAt pos
      holding [v, ov, iv] (setItem ov iv v)
      release [v, ov, iv] []) := by intro _; rfl) : PG X (.Subscript o i pos) (fun v σ H Q => to σ H fun x H1 => ti σ H1 fun y H2 => ∃ a, x = .ref a ∧ InsAt H2 C a ∧ sp [x, y, v] H2 (fun _ H3 => Q σ H3) (Ew σ)) := by
  refine ⟨fun pins s σ H v u Q I r h => ?_⟩
  rw [ha]
  refine wpAny_bind (wpAny_holding (thn (ho.run pins s σ H _ I h) fun ov s1 ⟨x, H1, I1, rx, q1⟩ => ?_))
  refine wpAny_bind (wpAny_holding (thn (hi.run pins s1 σ H1 _ I1 q1) fun iv s2 ⟨y, H2, I2, ry, p, ex, ia, hsp⟩ => ?_))
  subst ex
  obtain rfl : ov = Value.ref p := rx
  obtain ⟨od, J⟩ := ins_at I2 ia
  obtain ⟨m, hF⟩ := I2.fr
  refine wpAny_bind (wpAny_standAt (wpAny_bind (wpAny_holding (PySem.W.ksp_setItem hF I2.ok.mod.kin J hq0 hm.at_ hm.fn ?_))))
  refine thn (run_sub (vs := [V.ref p, y, v]) F ⟨hr, rfl⟩ (hx σ) I2 (.cons rfl (.cons ry (.cons r .nil))) hsp) fun v' s3 ⟨z, H3, I3, _, q3⟩ => ?_
  exact wpAny_release ⟨σ, H3, I3, q3⟩
def dOwnIx (C : Addr) (w : TF) (wo wi : TD) : TD := fun γ μ Ξ Φ => wo γ μ Ξ fun d μ1 => wi γ μ1 Ξ fun e μ2 => (∃ fs, insD μ2 d = some (C, fs)) ∧ w [d, e] μ2 (Ξ γ) Φ
theorem e_ownIx {o i : Expr} {wo wi : TD} (hm : OwnM X.K C "__getitem__" f) (hf : PySem.W.fnIn X.K f = true) (F : FnD X.prog X.w X.K X.mg X.base n f w) (hr : Room (n + 1) X.A) (tk : Takes X W) (ho : PE X o (tD X.K W wo)) (hi : PE X i (tD X.K W wi))
    (hsl : ∀ x i', subscripted i true (.ref x) i' = runValue (.builtin "lifetime.subscript" ⟨[.ref x, i'], []⟩) := by intro _ _; with_unfolding_all rfl) : PE X (.Subscript o i pos) (tD X.K W (dOwnIx C w wo wi)) :=
  pe_imp (pe_ownIx hm hf F hr (Ew := WE W) (fun σ => passAt tk σ) ho hi hsl) fun σ H Q ⟨S, γ, μ, F', Ξ, Φ, hE, hR, hX, hw, hq⟩ => ⟨S, γ, μ, F', Ξ, _, hE, hR, hX, hw, fun S1 H1 v d μ1 l1 r1 a1 q1 => ⟨S1, γ, μ1, F', Ξ, _, hE.mono l1, r1, hX.mono l1, q1, fun S2 H2 u e μ2 l2 r2 a2 ⟨⟨fs, hd⟩, q2⟩ => by
    obtain ⟨p, rfl, ia⟩ := insAt_of r2 (a1.mono l2) hd
    exact ⟨p, rfl, ia, S2, [d, e], μ2, F', Ξ γ, Φ, .cons (a1.mono l2) (.cons a2 .nil), r2, q2, fun S' H' v d' μ' l r a q => hq S' H' v d' μ' (l1.trans (l2.trans l)) r a q, fun S' H' cls xd fs μ' l r x q => hX S' H' σ γ cls xd fs μ' (l1.trans (l2.trans l)) (hE.mono (l1.trans (l2.trans l))) r x q⟩⟩⟩
def gOwn (C : Addr) (w : TF) (wo wi : TD) : TDG := fun d γ μ Ξ Φ => wo γ μ Ξ fun o μ1 => wi γ μ1 Ξ fun i μ2 => (∃ fs, insD μ2 o = some (C, fs)) ∧ w [o, i, d] μ2 (Ξ γ) fun _ μ3 => Φ γ μ3
theorem g_own {o i : Expr} {wo wi : TD} (hm : OwnM X.K C "__setitem__" f) (hq0 : PySem.W.noSeq X.K C = true) (F : FnD X.prog X.w X.K X.mg X.base n f w) (hr : Room n X.A) (tk : Takes X W) (ho : PE X o (tD X.K W wo)) (hi : PE X i (tD X.K W wi))
    (ha : ∀ v, assign (.Subscript o i pos) X.env v = (do
      let ov ← holding [v] (eval o X.env)
      let iv ← holding [v, ov] (eval i X.env)
      standAt pos
      holding [v, ov, iv] (setItem ov iv v)
      release [v, ov, iv] []) := by intro _; rfl) : PG X (.Subscript o i pos) (tDG X.K W (gOwn C w wo wi)) :=
  pg_imp (pg_ownIx hm hq0 F hr (Ew := WE W) (fun σ => passAt tk σ) ho hi ha) fun v σ H Q ⟨S, γ, μ, F', Ξ, Φ, dv, hE, hR, hX, av, hw, hq⟩ => ⟨S, γ, μ, F', Ξ, _, hE, hR, hX, hw, fun S1 H1 x d μ1 l1 r1 a1 q1 => ⟨S1, γ, μ1, F', Ξ, _, hE.mono l1, r1, hX.mono l1, q1, fun S2 H2 u e μ2 l2 r2 a2 ⟨⟨fs, hd⟩, q2⟩ => by
    obtain ⟨p, rfl, ia⟩ := insAt_of r2 (a1.mono l2) hd
    exact ⟨p, rfl, ia, S2, [d, e, dv], μ2, F', Ξ γ, _, .cons (a1.mono l2) (.cons a2 (.cons (av.mono (l1.trans l2)) .nil)), r2, q2, fun S' H' v d' μ' l r a q => hq S' H' σ γ μ' (l1.trans (l2.trans l)) (hE.mono (l1.trans (l2.trans l))) r q, fun S' H' cls xd fs μ' l r x q => hX S' H' σ γ cls xd fs μ' (l1.trans (l2.trans l)) (hE.mono (l1.trans (l2.trans l))) r x q⟩⟩⟩
/-! ### a < b < c -/
def dChainV (o1 o2 : OD) (wa wb wc : TD) : TD := fun γ μ Ξ Φ => wa γ μ Ξ fun x μ1 => wb γ μ1 Ξ fun y μ2 => o1 x y μ2 fun z μ3 => ∃ k, z = .bl k ∧ if k = true then wc γ μ3 Ξ fun e μ4 => o2 y e μ4 Φ else Φ (.bl false) μ3
theorem chain_go {r r' : R2} {o1 o2 : OD} {wa wb wc : TD} (h1 : OpD X.K r o1) (h2 : OpD X.K r' o2) {σ : L2.St} {H : Hp} {Q : VK} (h : tD X.K W (dChainV o1 o2 wa wb wc) σ H Q) : tChain r r' (tD X.K W wa) (tD X.K W wb) (tD X.K W wc) σ H Q := by
  obtain ⟨S, γ, μ, F, Ξ, Φ, hE, hR, hX, hw, hq⟩ := h
  refine ⟨S, γ, μ, F, Ξ, _, hE, hR, hX, hw, fun S1 H1 x d μ1 l1 r1 a1 q1 => ⟨S1, γ, μ1, F, Ξ, _, hE.mono l1, r1, hX.mono l1, q1, fun S2 H2 y e μ2 l2 r2 a2 q2 => h1 S2 H2 μ2 F x y d e _ _ r2 (a1.mono l2) a2 q2 fun S3 H3 z z' μ3 l3 r3 a3 ⟨k, e1, q3⟩ => ?_⟩⟩
  subst e1
  refine ⟨k, a3.bl_inv, ?_⟩
  have l123 := l1.trans (l2.trans l3)
  cases k with
  | true =>
    rw [if_pos rfl] at q3 ⊢
    exact ⟨S3, γ, μ3, F, Ξ, _, hE.mono l123, r3, hX.mono l123, q3, fun S4 H4 c g μ4 l4 r4 a4 q4 => h2 S4 H4 μ4 F y c e g _ _ r4 (a2.mono (l3.trans l4)) a4 q4 fun S5 H5 v d' μ5 l5 r5 a5 q5 => hq S5 H5 v d' μ5 (l123.trans (l4.trans l5)) r5 a5 q5⟩
  | false =>
    rw [if_neg Bool.false_ne_true] at q3 ⊢
    exact hq S3 H3 _ _ μ3 l123 r3 (.bl false) q3
theorem e_chain {op op' : CmpOp} {r r' : R2} {o1 o2 : OD} {a b c : Expr} {wa wb wc : TD} (ho : OpR X (compareOp op) r) (h1 : OpD X.K r o1) (ho' : OpR X (compareOp op') r') (h2 : OpD X.K r' o2) (ha : PE X a (tD X.K W wa)) (hb : PE X b (tD X.K W wb)) (hc : PE X c (tD X.K W wc))
    (hm : lastMarks [op, op'] [b, c] = false := by with_unfolding_all rfl) : PE X (.Compare a [op, op'] [b, c] pos) (tD X.K W (dChainV o1 o2 wa wb wc)) := pe_imp (pe_chain ho ho' ha hb hc hm) fun _ _ _ h => chain_go h1 h2 h
theorem t_chain {op op' : CmpOp} {r r' : R2} {o1 o2 : OD} {a b c : Expr} {wa wb wc : TD} (ho : OpR X (compareOp op) r) (h1 : OpD X.K r o1) (ho' : OpR X (compareOp op') r') (h2 : OpD X.K r' o2) (ha : PE X a (tD X.K W wa)) (hb : PE X b (tD X.K W wb)) (hc : PE X c (tD X.K W wc))
    (hm : lastMarks [op, op'] [b, c] = false := by with_unfolding_all rfl) : PT X (.Compare a [op, op'] [b, c] pos) (tDT X.K W (dTest (dChainV o1 o2 wa wb wc))) :=
  pt_imp (pt_chain ho ho' ha hb hc hm) fun σ H Q ⟨S, γ, μ, F, Ξ, Φ, hE, hR, hX, hw, hq⟩ => chain_go h1 h2 ⟨S, γ, μ, F, Ξ, _, hE, hR, hX, hw, fun S1 H1 v d μ1 l1 r1 a1 ⟨b, e, q1⟩ => ⟨b, by subst e; exact a1.bl_inv, hq S1 H1 b μ1 l1 r1 q1⟩⟩
end
end DL

/-! # DL15: methods of texts, count, index, insert, slices of tuples, walks over texts, isinstance of built-in types, try -/
namespace DL
open PySem L2
section
variable {X : Cx} {W : WX} {pos : Pos}
theorem e_gstrE {x y : Str} (h : ∃ t, X.mg x = some (.str y t)) (hg : Gl X x := by rfl) (hd : (x == ("__debug__" : Str)) = false := by decide) : PE X (.Name x pos) (tD X.K W (dC (.str y))) := by
  obtain ⟨t, hm⟩ := h
  exact e_gstr hm hg hd
theorem e_gintE {x : Str} {y : Int} (h : ∃ t, X.mg x = some (.int y t)) (hg : Gl X x := by rfl) (hd : (x == ("__debug__" : Str)) = false := by decide) : PE X (.Name x pos) (tD X.K W (dC (.int y))) := by
  obtain ⟨t, hm⟩ := h
  exact e_gint hm hg hd
/-- a built-in type by its name -/
theorem e_ty {x : Str} {n : String} (hm : X.mg x = none) (hv : bootBuiltins x = some (.type n) := by decide +kernel) (hg : Gl X x := by rfl) (hn : x ≠ "__name__" := by decide) (hd : (x == ("__debug__" : Str)) = false := by decide) : PE X (.Name x pos) (tD X.K W (dC (.ty n))) :=
  pe_imp (pe_bltn (v := .ty n) hg hm hv rfl hn hd) fun σ H Q ⟨S, γ, μ, F, Ξ, Φ, hE, hR, hX, hw, hq⟩ => hq S H _ _ μ (Le.refl S) hR (.ty n) hw
def tyD (μ : Mu) : D → Option String
  | .non => some "NoneType"
  | .bl _ => some "bool"
  | .int _ => some "int"
  | .str _ => some "str"
  | .lst _ => some "list"
  | .tup _ => some "tuple"
  | .adr a => match μ a with
    | some (.lst _) => some "list"
    | _ => none
  | _ => none
theorem ty_at {K : PySem.W.Frag} {S H : Hp} {μ F : Mu} {v : V} {d : D} {t : String} (r : R K S H μ F) (a : At K S v d) (h : tyD μ d = some t) : TyX K H v (.type t) := by
  cases a with
  | non => cases h; exact .base .non
  | bl b => cases h; exact .base (.bl b)
  | int b => cases h; exact .base (.int b)
  | str b => cases h; exact .base (.str b)
  | lst hs hl hi => cases h; exact .base (.lst (r.lst hs))
  | tup hs hl hi => cases h; exact .base (.tup (r.tup hs))
  | adr p =>
    unfold tyD at h
    cases e : μ p with
    | none => simp only [e] at h; cases h
    | some m =>
      simp only [e] at h
      cases m with
      | lst xs =>
        cases h
        obtain ⟨_, o, ho, hm⟩ := r.sto p _ e
        obtain ⟨vs, rfl, _⟩ := hm.lst_inv
        exact .base (.lst ho)
      | _ => cases h
  | _ => cases h
/-- isinstance(x, T), T a built-in type -/
def bIsiT (n : String) : BF := fun ds μ Φ => ∃ d t b, ds = [d, .ty n] ∧ tyD μ d = some t ∧ kitB t n = some b ∧ Φ (.bl b) μ
theorem bd_isiT {K : PySem.W.Frag} {n : String} : BiD K (rIsi K) (bIsiT n) := by
  rintro S H μ F vs ds Φ Q r a ⟨d, t, b, rfl, h, e, q⟩ k
  obtain ⟨v, u, rfl, av, au⟩ := atL2 a
  have hu : u = .ty n := by cases au; rfl
  exact ⟨v, u, .type t, .type n, b, rfl, by rw [hu]; exact .ty n, ty_at r av h, kit_ty e, k S H _ _ μ (Le.refl S) r (.bl b) q⟩
/-- min(i, j) -/
def bMin2 : BF := fun ds μ Φ => ∃ i j : Int, ds = [.int i, .int j] ∧ Φ (.int (if j < i then j else i)) μ
theorem bd_min2 {K : PySem.W.Frag} : BiD K (fun xs H Q => ∃ i j, xs = [V.int i, V.int j] ∧ Q (.int (if j < i then j else i)) H) bMin2 := by
  rintro S H μ F vs ds Φ Q r a ⟨i, j, rfl, q⟩ k
  obtain ⟨v, u, rfl, av, au⟩ := atL2 a
  exact ⟨i, j, by rw [av.int_inv, au.int_inv], k S H _ _ μ (Le.refl S) r (.int _) q⟩
/-- c in 'text', c one sign -/
def rInSg (neg : Bool) : R2 := fun x y H Q => ∃ (c : Nat) (z : Str), x = .str ⟨#[c]⟩ ∧ y = .str z ∧ Q (.bl (if neg then !decide (c ∈ z.cps.toList) else decide (c ∈ z.cps.toList))) H
theorem op_inSg : OpR X (compareOp .In) (rInSg false) := fun pins s σ H x y v u Q I rx ry h => op_in_sign pins s σ H x y v u Q I rx ry h
theorem op_notInSg : OpR X (compareOp .NotIn) (rInSg true) := fun pins s σ H x y v u Q I rx ry h => op_notIn_sign pins s σ H x y v u Q I rx ry h
def oInS (neg : Bool) : OD := fun x y μ Φ => ∃ (c : Nat) (z : Str), x = .str ⟨#[c]⟩ ∧ y = .str z ∧ Φ (.bl (if neg then !decide (c ∈ z.cps.toList) else decide (c ∈ z.cps.toList))) μ
theorem od_inS {K : PySem.W.Frag} {neg : Bool} : OpD K (rInSg neg) (oInS neg) := by
  intro S H μ F x y d e Φ Q r ax ay ⟨c, z, e1, e2, q⟩ k
  subst e1; subst e2
  exact ⟨c, z, ax.str_inv, ay.str_inv, k S H _ _ μ (Le.refl S) r (.bl _) q⟩
/-- the signs of a text, one by one -/
def signsD (x : Str) : List D := x.cps.toList.map fun c => D.str ⟨#[c]⟩
def dItS (w : TD) : TDI := fun γ μ Ξ Φ => w γ μ Ξ fun d μ1 => ∃ x, d = .str x ∧ Φ (signsD x) (fun _ => True) μ1
theorem its_ok {K : PySem.W.Frag} {S : Hp} {G : Mu → Prop} {x : Str} : ItOk K S G (Its x) (signsD x) := by
  intro S' H μ F i l r g
  refine ⟨fun d hd => ?_, fun hn => ?_⟩
  · unfold signsD at hd
    rw [List.getElem?_map, Array.getElem?_toList] at hd
    cases e : x.cps[i]? with
    | none => rw [e] at hd; cases hd
    | some c =>
      rw [e] at hd
      cases hd
      refine ⟨(Array.getElem?_eq_some_iff.mp e).1, fun y H' ⟨e1, c', e2, e3⟩ => ?_⟩
      subst e1
      rw [e] at e2
      cases e2
      subst e3
      exact ⟨S', Le.refl S', r, .str _⟩
  · have := List.getElem?_eq_none_iff.mp hn
    show x.cps.size ≤ i
    simpa [signsD] using this
theorem i_str {tg e : Expr} {w : TD} (he : PE X e (tD X.K W w)) : PI X tg e (tDI X.K W (dItS w)) :=
  pi_imp (pi_str he) fun σ H Rr ⟨S, γ, μ, F, Ξ, Φ, hE, hR, hX, hw, hq⟩ => ⟨S, γ, μ, F, Ξ, _, hE, hR, hX, hw, fun S1 H1 v d μ1 l1 r1 a1 ⟨x, e1, q1⟩ => by
    subst e1
    exact ⟨x, a1.str_inv, hq S1 H1 _ _ _ μ1 l1 r1 its_ok q1⟩⟩
/-- slices of tuples -/
def dSlTT (w : TD) (wl wh : TDO) : TD := fun γ μ Ξ Φ => w γ μ Ξ fun d μ1 => wl γ μ1 Ξ fun lo μ2 => wh γ μ2 Ξ fun hi μ3 => ∃ ds, tupD d = some ds ∧ (d = .tup ds ∨ (cutD ds lo hi).length ≠ ds.length) ∧ Φ (.tup (cutD ds lo hi)) μ3
theorem cutD_all {ds : List D} {lo hi : Option Int} (h1 : HT.sIx ds.length 0 lo = 0) (h2 : HT.sIx ds.length ds.length hi = ds.length) : cutD ds lo hi = ds := by
  unfold cutD
  rw [h1, h2, List.drop_zero, Nat.sub_zero, List.take_length]
theorem e_slT {e : Expr} {w : TD} {lo hi : Option Expr} {wl wh : TDO} {p2 : Pos} (he : PE X e (tD X.K W w)) (hl : PO X lo (tDO X.K W wl)) (hh : PO X hi (tDO X.K W wh)) : PE X (.Subscript e (.Slice lo hi none p2) pos) (tD X.K W (dSlTT w wl wh)) :=
  pe_imp (pe_slice sl_tupA he hl hh) fun σ H Q ⟨S, γ, μ, F, Ξ, Φ, hE, hR, hX, hw, hq⟩ => ⟨S, γ, μ, F, Ξ, _, hE, hR, hX, hw, fun S1 H1 v d μ1 l1 r1 a1 q1 => ⟨S1, γ, μ1, F, Ξ, _, hE.mono l1, r1, hX.mono l1, q1, fun S2 H2 o μ2 l2 r2 q2 => ⟨S2, γ, μ2, F, Ξ, _, hE.mono (l1.trans l2), r2, hX.mono (l1.trans l2), q2, fun S3 H3 o2 μ3 l3 r3 ⟨ds, h1, h2, q3⟩ => by
    have a3 := (a1.mono l2).mono l3
    obtain ⟨p, vs, rfl, hs, hl⟩ := tup_at r3 a3 h1
    refine ⟨p, vs, rfl, hs, fun ⟨z1, z2⟩ => ?_, fun _ => new_tup r3 (cut_at hl o o2) q3 fun S4 H4 v d μ4 l4 r4 a4 q4 => hq S4 H4 v d μ4 (l1.trans (l2.trans (l3.trans l4))) r4 a4 q4⟩
    rw [hl.1] at z1 z2
    have e := cutD_all z1 z2
    rw [e] at q3 h2
    rcases h2 with rfl | h2
    · exact hq S3 H3 _ _ μ3 (l1.trans (l2.trans l3)) r3 a3 q3
    · exact absurd rfl h2⟩⟩⟩
/-! ### methods -/
/-- tuple(list), the new tuple's object known: it bears no dict -/
def rTupF (K : PySem.W.Frag) : List V → Hp → VK → Prop := fun xs H Q => ∃ p ys, xs = [V.ref p] ∧ ((SqL K H p ys ∧ ∀ (l : Addr) (ob : Obj), ob.dict = none → H l = none → Q (.ref l) (upd H l (.frz ob (.tup ys)))) ∨ (SqT K H p ys ∧ Q (.ref p) H))
theorem call_tuple_fz : CallR X (.type "tuple") (rTupF X.K) := by
  intro pins s σ H xs us Q I r h
  obtain ⟨p, ys, rfl, h⟩ := h
  obtain ⟨u, rfl, rx⟩ := vals1 r
  cases rx
  rcases h with ⟨hq, q⟩ | ⟨hq, q⟩
  · obtain ⟨its, r', pl, hz⟩ := I.list hq
    have hlen := r'.length
    refine call_tuple_list pl.isList (fun h' kp => ?_) (by have := line63; simp only [List.size_toArray] <;> omega)
    have I1 : Inv X pins σ H { s with heap := h' } := I.kept (t' := s.toks) kp
    have I2 : Inv X pins σ (upd H h'.objs.size (.frz { cls := .type "tuple", data := .seq its.toArray } (.tup ys))) { s with heap := h'.push { cls := .type "tuple", data := .seq its.toArray } } :=
      I1.laid (t' := s.toks) (fun b o e => Heap.get?_push_of_some _ e) (Nat.le_refl _) (show ObjOk X.prog X.w _ _ _ (.frz _ (.tup ys)) from ⟨Heap.get?_push_size _ rfl, hz, its, r', PyProof.Rows.IsTup.new _ _⟩)
    exact ⟨.ref h'.objs.size, _, I2, rfl, q _ _ rfl (I1.hok.fresh (Nat.le_refl _))⟩
  · obtain ⟨its, r', pl, hz⟩ := I.tuple hq
    exact call_tuple_same pl ⟨.ref p, H, I, rfl, q⟩
def bTupleF : BF := fun ds μ Φ => ∃ d xs, ds = [d] ∧ ((lisD μ d = some xs ∧ Φ (.ftup xs) μ) ∨ (tupD d = some xs ∧ Φ d μ))
theorem bd_tupleF {K : PySem.W.Frag} : BiD K (rTupF K) bTupleF := by
  rintro S H μ F vs ds Φ Q r a ⟨d, xs, rfl, h⟩ k
  obtain ⟨v, rfl, av⟩ := atL1 a
  rcases h with ⟨h, q⟩ | ⟨h, q⟩
  · obtain ⟨p, us, rfl, hs, hl⟩ := lis_at r av h
    refine ⟨p, us, rfl, .inl ⟨hs, fun l ob hd hf => ?_⟩⟩
    have l1 := Le.new (o := .frz ob (.tup us)) (r.free hf)
    exact k _ _ _ _ μ l1 (r.new (o := .frz ob (.tup us)) hf) (.ftup upd_same hd (hl.mono l1).1 (hl.mono l1).2) q
  · obtain ⟨p, us, rfl, hs, hl⟩ := tup_at r av h
    exact ⟨p, us, rfl, .inr ⟨hs, k S H _ _ μ (Le.refl S) r av q⟩⟩
/-- o.m(e, ..), o such a tuple -/
theorem pe_bmF {T id : String} {r : V → List V → Hp → VK → Prop} {o e : Expr} {es : List Expr} {to : TE} {t : TA} {name : Str} {apos cpos : Pos} (slot : Slot "tuple" name id) (hty : typeOf (.builtin id) = pure (.type "method_descriptor")) (hm : MtR X id r) (ho : PE X o to) (ha : PA X (e :: es) t)
    (hbase : attributeBase o name X.env (eval o X.env) = eval o X.env := by rfl)
    (hfew : ((backTo cpos (starEach (e :: es) X.env)).all (fun x => !x.1) && (backToKw cpos (keywordEach [] X.env)).all (fun x => x.1.isSome)
      && decide ((e :: es).length + ([] : List Keyword).length + (if ([] : List Keyword).isEmpty then 0 else 1) < 30)) = true := by rfl)
    (hline : (apos.endLine == cpos.line) = true := by rfl) (hs : starEach (e :: es) X.env = (false, eval e X.env) :: starEach es X.env := by rfl) (hplain : (backTo cpos (starEach es X.env)).any (·.1) = false := by rfl) :
    PE X (.Call (.Attribute o name apos) (e :: es) [] cpos) (fun σ H Q => to σ H fun x H1 => (∃ p ob vs, x = V.ref p ∧ H1 p = some (.frz ob (.tup vs)) ∧ ob.dict = none) ∧ t σ H1 fun xs H2 => r x xs H2 Q) := by
  refine ⟨fun pins s σ H Q I h => ?_⟩
  refine wpAny_Call_method_late hbase hfew hline rfl (thn (ho.run pins s σ H _ I h) fun v s1 ⟨x, H1, I1, r1, ⟨p, ob, vs, ex, hp, hd⟩, q1⟩ => ?_)
  subst ex
  obtain rfl : v = Value.ref p := r1
  obtain ⟨e1, _, its, rv, ⟨o', ho', hc', n, hd'⟩⟩ := (show ObjOk X.prog X.w H1 s1.heap p (.frz ob (.tup vs)) from I1.hok p _ hp)
  refine ⟨"tuple", id, PySem.F.plainAttrs_tuple, slot, hty, ⟨o', ho', hc'⟩, fun a z => ?_, ?_⟩
  · cases z; exact ⟨ob, e1, hd⟩
  have hA := ha.run cpos pins s1 σ H1 _ I1 q1
  rw [hs] at hA ⊢
  refine Calls.callWith_builtin (by show (false || (backTo cpos (starEach es X.env)).any (·.1)) = false; rw [hplain] <;> rfl) (Calls.evalArgs_plain ?_)
  exact thn hA fun us s2 ⟨vs, H2, I2, r2, q2⟩ => hm pins s2 σ H2 (V.ref p) vs _ us Q I2 rfl r2 q2
def isTupD : Mu → D → Prop := fun _ d => ∃ xs, d = .ftup xs
def MtF (K : PySem.W.Frag) (r : V → List V → Hp → VK → Prop) (w : List D → BF) : Prop :=
  ∀ (S H : Hp) (μ F : Mu) (v : V) (xs : List D) (vs : List V) (ds : List D) (Φ : KD) (Q : VK), R K S H μ F → At K S v (.ftup xs) → AtL K S vs ds → w xs ds μ Φ → (∀ S' H' v d' μ', Le S S' → R K S' H' μ' F → At K S' v d' → Φ d' μ' → Q v H') → r v vs H Q
def dBmF (w : List D → BF) (wo : TD) (t : TDA) : TD := fun γ μ Ξ Φ => wo γ μ Ξ fun d μ1 => ∃ xs, d = .ftup xs ∧ t γ μ1 Ξ fun ds μ2 => w xs ds μ2 Φ
theorem e_bmF {id : String} {r : V → List V → Hp → VK → Prop} {w : List D → BF} {wo : TD} {t : TDA} {o e : Expr} {es : List Expr} {name : Str} {apos cpos : Pos} (slot : Slot "tuple" name id) (hty : typeOf (.builtin id) = pure (.type "method_descriptor")) (hm : MtR X id r) (hw : MtF X.K r w) (ho : PE X o (tD X.K W wo)) (ha : PA X (e :: es) (tDA X.K W t))
    (hbase : attributeBase o name X.env (eval o X.env) = eval o X.env := by rfl)
    (hfew : ((backTo cpos (starEach (e :: es) X.env)).all (fun x => !x.1) && (backToKw cpos (keywordEach [] X.env)).all (fun x => x.1.isSome)
      && decide ((e :: es).length + ([] : List Keyword).length + (if ([] : List Keyword).isEmpty then 0 else 1) < 30)) = true := by rfl)
    (hline : (apos.endLine == cpos.line) = true := by rfl) (hs : starEach (e :: es) X.env = (false, eval e X.env) :: starEach es X.env := by rfl) (hplain : (backTo cpos (starEach es X.env)).any (·.1) = false := by rfl) :
    PE X (.Call (.Attribute o name apos) (e :: es) [] cpos) (tD X.K W (dBmF w wo t)) :=
  pe_imp (pe_bmF (T := "tuple") slot hty hm ho ha hbase hfew hline hs hplain) fun σ H Q ⟨S, γ, μ, F, Ξ, Φ, hE, hR, hX, hw', hq⟩ => ⟨S, γ, μ, F, Ξ, _, hE, hR, hX, hw', fun S1 H1 v d μ1 l1 r1 a1 ⟨xs, e1, q1⟩ => by
    subst e1
    have a1' := a1
    cases a1 with
    | @ftup p ob vs _ h hd hl hi =>
      exact ⟨⟨p, ob, vs, rfl, r1.ftup h, hd⟩, S1, γ, μ1, F, Ξ, _, hE.mono l1, r1, hX.mono l1, q1, fun S2 H2 vs ds μ2 l2 r2 a2 q2 => hw S2 H2 μ2 F _ xs vs ds _ _ r2 (a1'.mono l2) a2 q2 fun S3 H3 v d μ3 l3 r3 a3 q3 => hq S3 H3 v d μ3 (l1.trans (l2.trans l3)) r3 a3 q3⟩⟩
/-- partition -/
def mPart : MF := fun d ds μ Φ => ∃ x y, d = .str x ∧ ds = [.str y] ∧ (y.length == 0) = false ∧ x.length ≤ sizeLine ∧ Φ (.tup [.str (Txt.partition x y).1, .str (Txt.partition x y).2.1, .str (Txt.partition x y).2.2]) μ
theorem md_partition {K : PySem.W.Frag} : MtD K "str" (fun x xs H Q => ∃ a b, x = V.str a ∧ xs = [V.str b] ∧ (b.length == 0) = false ∧ a.length ≤ sizeLine ∧ ∀ p, H p = none → Q (.ref p) (upd H p (.tup [.str (Txt.partition a b).1, .str (Txt.partition a b).2.1, .str (Txt.partition a b).2.2]))) isStr mPart := by
  refine ⟨ty_str, ?_⟩
  rintro S H μ F v d vs ds Φ Q r a al ⟨x, y, rfl, rfl, h1, h2, q⟩ k
  obtain ⟨w, rfl, aw⟩ := atL1 al
  exact ⟨x, y, a.str_inv, by rw [aw.str_inv], h1, h2, new_tup r (.cons (.str _) (.cons (.str _) (.cons (.str _) .nil))) q k⟩
/-- split -/
def mSplit : MF := fun d ds μ Φ => ∃ x y, d = .str x ∧ ds = [.str y] ∧ (y.length == 0) = false ∧ x.length + 2 ≤ sizeLine ∧ Φ (.lst ((Txt.split x y).map D.str)) μ
theorem md_split {K : PySem.W.Frag} : MtD K "str" (fun x xs H Q => ∃ a b, x = V.str a ∧ xs = [V.str b] ∧ (b.length == 0) = false ∧ a.length + 2 ≤ sizeLine ∧ rNewStrs (Txt.split a b) H Q) isStr mSplit := by
  refine ⟨ty_str, ?_⟩
  rintro S H μ F v d vs ds Φ Q r a al ⟨x, y, rfl, rfl, h1, h2, q⟩ k
  obtain ⟨w, rfl, aw⟩ := atL1 al
  exact ⟨x, y, a.str_inv, by rw [aw.str_inv], h1, h2, new_lst r (atL_strs _) q k⟩
/-- index of a text in a list, in a tuple of texts -/
def fstAt (ys : List Str) (z : Str) (j : Nat) : Prop := ys[j]? = some z ∧ ∀ m : Nat, m < j → ys[m]? ≠ some z
def mIndex : MF := fun d ds μ Φ => ∃ ys z j, lisD μ d = some (ys.map D.str) ∧ ds = [.str z] ∧ fstAt ys z j ∧ Φ (.int (j : Nat)) μ
theorem flat_strsV (ys : List Str) : (ys.map V.str).all flatV = true := by
  rw [List.all_map]
  exact List.all_eq_true.mpr fun _ _ => rfl
theorem md_index {K : PySem.W.Frag} : MtD K "list" (rIndex K) isLis mIndex := by
  refine ⟨ty_lis, ?_⟩
  rintro S H μ F v d vs ds Φ Q r a al ⟨ys, z, j, h, rfl, ⟨h1, h2⟩, q⟩ k
  obtain ⟨w, rfl, aw⟩ := atL1 al
  obtain ⟨p, us, rfl, hs, hl⟩ := lis_at r a h
  rw [hl.strs] at hs
  refine ⟨p, ys.map V.str, .str z, j, .str z, rfl, by rw [aw.str_inv], hs, rfl, flat_strsV ys, by rw [List.getElem?_map, h1]; rfl, by simp [eqV], fun m z' hm hz => ?_, k S H _ _ μ (Le.refl S) r (.int _) q⟩
  rw [List.getElem?_map] at hz
  cases e : ys[m]? with
  | none => rw [e] at hz; cases hz
  | some y =>
    rw [e] at hz
    cases hz
    have ne : y ≠ z := fun w => h2 m hm (by rw [e, w])
    simp [eqV, ne]
def mIndexT (xs : List D) : BF := fun ds μ Φ => ∃ ys z j, xs = ys.map D.str ∧ ds = [.str z] ∧ fstAt ys z j ∧ Φ (.int (j : Nat)) μ
theorem md_indexT {K : PySem.W.Frag} : MtF K (fun x xs H Q => ∃ p, ∃ ys : List Str, ∃ z j, x = V.ref p ∧ xs = [V.str z] ∧ SqT K H p (ys.map V.str) ∧ ys[j]? = some z ∧ (∀ m, m < j → ys[m]? ≠ some z) ∧ Q (.int (j : Nat)) H) mIndexT := by
  rintro S H μ F v xs vs ds Φ Q r a al ⟨ys, z, j, rfl, rfl, ⟨h1, h2⟩, q⟩ k
  obtain ⟨w, rfl, aw⟩ := atL1 al
  obtain ⟨p, us, rfl, hs, hl⟩ := tup_at r a rfl
  rw [hl.strs] at hs
  exact ⟨p, ys, z, j, rfl, by rw [aw.str_inv], hs, h1, h2, k S H _ _ μ (Le.refl S) r (.int _) q⟩
/-- how often a text stands in a list, in a tuple of texts -/
def rCntS (K : PySem.W.Frag) : V → List V → Hp → VK → Prop := fun x xs H Q => ∃ (p : Addr) (ns : List Str) (k : Str), x = .ref p ∧ xs = [.str k] ∧ SqL K H p (ns.map V.str) ∧ Q (.int (ns.count k : Nat)) H
def rCntST (K : PySem.W.Frag) : V → List V → Hp → VK → Prop := fun x xs H Q => ∃ (p : Addr) (ns : List Str) (k : Str), x = .ref p ∧ xs = [.str k] ∧ SqT K H p (ns.map V.str) ∧ Q (.int (ns.count k : Nat)) H
theorem cnt_eqU {k : Str} : ∀ {ns : List Str} {us : List Value}, Vals (ns.map V.str) us → us.countP (eqU (.str k)) = ns.count k
  | [], _, r => by rw [List.map_nil] at r; cases r; rfl
  | n :: ns, _, r => by
    rw [List.map_cons] at r
    cases r with
    | cons h t =>
      rw [List.countP_cons, List.count_cons, cnt_eqU t, eqU_of h rfl]
      have e : eqV (.str n) (.str k) = (n == k) := by
        by_cases z : n = k
        · subst z; simp [eqV]
        · simp [eqV, z]
      rw [e]
theorem mt_lcountS : MtR X "list.count" (rCntS X.K) := by
  intro pins s σ H x xs v us Q I rx rxs h
  obtain ⟨p, ns, k, rfl, rfl, hs, q⟩ := h
  cases rx
  obtain ⟨u, rfl, ru⟩ := rxs.one
  obtain ⟨its, rv, ⟨⟨cls, dd, data, sl⟩, n, ho, hc, hdn, hd⟩, hlen⟩ := I.list hs
  simp only at hc hd
  subst hc hd
  refine call_meets PySem.F.slot_list_count ⟨_, ho, rfl⟩ PySem.F.entry_list_count (PySem.F.args_list_count_2 _ _)
    (SeqAt.list_countAt p its.toArray n dd sl u (eqU (.str k))) ⟨ho, fun y hy => mem_eqAt ru rfl rv (flat_strsV ns) y (by simpa using hy), ?_⟩
  refine ⟨.int (ns.count k : Nat), H, I.tok _, ⟨s.toks, ?_⟩, q⟩
  show Value.int ((its.toArray.toList.countP (eqU (.str k)) : Nat) : Int) s.toks = Value.int ((ns.count k : Nat) : Int) s.toks
  rw [show its.toArray.toList = its from rfl, cnt_eqU rv]
theorem mt_tcountS : MtR X "tuple.count" (rCntST X.K) := by
  intro pins s σ H x xs v us Q I rx rxs h
  obtain ⟨p, ns, k, rfl, rfl, hs, q⟩ := h
  cases rx
  obtain ⟨u, rfl, ru⟩ := rxs.one
  obtain ⟨its, rv, ⟨⟨cls, dd, data, sl⟩, ho, hc, n, hd⟩, hz⟩ := I.tuple hs
  simp only at hc hd
  subst hc hd
  refine call_meets PySem.F.slot_tuple_count ⟨_, ho, rfl⟩ PySem.F.entry_tuple_count (PySem.F.args_tuple_count_2 _ _)
    (SeqAt.tuple_countAt p its.toArray n dd sl u (eqU (.str k))) ⟨ho, fun y hy => mem_eqAt ru rfl rv (flat_strsV ns) y (by simpa using hy), ?_⟩
  refine ⟨.int (ns.count k : Nat), H, I.tok _, ⟨s.toks, ?_⟩, q⟩
  show Value.int ((its.toArray.toList.countP (eqU (.str k)) : Nat) : Int) s.toks = Value.int ((ns.count k : Nat) : Int) s.toks
  rw [show its.toArray.toList = its from rfl, cnt_eqU rv]
def mCount : MF := fun d ds μ Φ => ∃ (ys : List Str) (z : Str), lisD μ d = some (ys.map D.str) ∧ ds = [.str z] ∧ Φ (.int (ys.count z : Nat)) μ
theorem md_count {K : PySem.W.Frag} : MtD K "list" (rCntS K) isLis mCount := by
  refine ⟨ty_lis, ?_⟩
  rintro S H μ F v d vs ds Φ Q r a al ⟨ys, z, h, rfl, q⟩ k
  obtain ⟨w, rfl, aw⟩ := atL1 al
  obtain ⟨p, us, rfl, hs, hl⟩ := lis_at r a h
  rw [hl.strs] at hs
  exact ⟨p, ys, z, rfl, by rw [aw.str_inv], hs, k S H _ _ μ (Le.refl S) r (.int _) q⟩
def mCountT (xs : List D) : BF := fun ds μ Φ => ∃ (ys : List Str) (z : Str), xs = ys.map D.str ∧ ds = [.str z] ∧ Φ (.int (ys.count z : Nat)) μ
theorem md_countT {K : PySem.W.Frag} : MtF K (rCntST K) mCountT := by
  rintro S H μ F v xs vs ds Φ Q r a al ⟨ys, z, rfl, rfl, q⟩ k
  obtain ⟨w, rfl, aw⟩ := atL1 al
  obtain ⟨p, us, rfl, hs, hl⟩ := tup_at r a rfl
  rw [hl.strs] at hs
  exact ⟨p, ys, z, rfl, by rw [aw.str_inv], hs, k S H _ _ μ (Le.refl S) r (.int _) q⟩
/-! ### try: .. except X: .. -/
def dTry (M : Value → Bool → Prop) (wb ws : TDS) : TDS := fun DD γ μ Ξ => wb DD γ μ fun γ' cls fs μ' => ∃ b, M cls b ∧ (b = true → ws DD γ' μ' Ξ) ∧ (b = false → Ξ γ' cls fs μ')
theorem s_try {x : Str} {c : Value} {body suite : List Stmt} {b₀ : Stmt} {np pos' : Pos} {M : Value → Bool → Prop} {wb ws : TDS} (hs : X.stack = X.env :: X.outer) (hf : X.env.frame = some X.env.locals) (hc : Names X x c) (tk : Takes X W) (hM : ∀ cls b, M cls b → PySem.W.exmOne X.K cls c = some b)
    (hb : ∀ (W' : WX) (pn : List (Addr × Obj)) (xe : Value → Shared → Prop), Takes (X.tr pn xe) W' → PSs (X.tr pn xe) body (tDS X.K W' wb))
    (hsu : ∀ (a : Addr) (pn : List (Addr × Obj)), PSs (X.suite a pn) (b₀ :: suite) (tDS X.K W ws)) :
    PS X (.Try body [.ExceptHandler (some (.Name x np)) none (b₀ :: suite) pos'] [] [] pos) (tDS X.K W (dTry M wb ws)) :=
  ps_imp (ps_try_only hs hf hc tk (fun W' pn xe tk' _ => hb W' pn xe tk') fun a oe cls d pn _ _ => hsu a _) fun D σ H ⟨S, γ, μ, F, Ξ, DD, hE, hR, hX, hw, hD⟩ => ⟨S, γ, μ, F, _, DD, hE, hR, fun S' H' σ' γ' cls xd fs μ' l e r x ⟨b, hm, h1, h2⟩ => ⟨b, hM cls b hm, fun hb a ha => ⟨S', γ', μ', F, Ξ, DD, e, r, hX.mono l, h1 hb, hD.mono l⟩, fun hb => hX S' H' σ' γ' cls xd fs μ' l e r x (h2 hb)⟩, hw, hD⟩
/-- what is raised is of the class that is caught -/
def exM (C : Addr) : Value → Bool → Prop := fun cls b => cls = .ref C ∧ b = true
theorem exM_ok {K : PySem.W.Frag} {C : Addr} (h : PySem.W.exmOne K (.ref C) (.ref C) = some true) : ∀ cls b, exM C cls b → PySem.W.exmOne K cls (.ref C) = some b := by
  rintro cls b ⟨rfl, rfl⟩
  exact h
end
end DL

/-! # DL16: displays of dicts, walks over dicts, comprehensions with two fors -/
namespace DL
open PySem L2
def keyOf : Key → D
  | .inl i => .int i
  | .inr x => .str x
def tkeyOf (k : List Key) : D := .tup (k.map keyOf)
theorem at_key {K : PySem.W.Frag} {S : Hp} (k : Key) : At K S (kV k) (keyOf k) := by
  cases k with
  | inl i => exact .int i
  | inr x => exact .str x
theorem atL_keys {K : PySem.W.Frag} {S : Hp} : ∀ ks : List Key, AtL K S (ks.map kV) (ks.map keyOf)
  | [] => .nil
  | k :: ks => .cons (at_key k) (atL_keys ks)
theorem keyD_of (k : Key) : keyD (keyOf k) = some k := by cases k <;> rfl
theorem keysD_of : ∀ ks : List Key, keysD (ks.map keyOf) = some ks
  | [] => rfl
  | k :: ks => by rw [List.map_cons, keysD, keyD_of, keysD_of ks]
theorem tkeyD_of (ks : List Key) : tkeyD (tkeyOf ks) = some ks := keysD_of ks
section
variable {κ : Type} {K : PySem.W.Frag} {S : Hp}
theorem tab_get {κ : Type} [DecidableEq κ] {kvs : List (κ × V)} {es : List (κ × D)} (t : Tab K S kvs es) {i : Nat} {e : κ × D} (h : es[i]? = some e) : ∃ v, kvs[i]? = some (e.1, v) ∧ At K S v e.2 := by
  have h1 : (es.map (·.2))[i]? = some e.2 := by rw [List.getElem?_map, h]; rfl
  obtain ⟨v, hv, a⟩ := t.2.get h1
  have h2 : (kvs.map (·.1))[i]? = some e.1 := by rw [t.1, List.getElem?_map, h]; rfl
  rw [List.getElem?_map] at hv h2
  cases z : kvs[i]? with
  | none => rw [z] at hv; cases hv
  | some p =>
    rw [z] at hv h2
    cases hv
    have h3 : p.1 = e.1 := Option.some.inj h2
    exact ⟨p.2, by rw [← h3], a⟩
end
section
variable {X : Cx} {W : WX} {pos : Pos}
/-! ### for k in d: d stands locked -/
theorem itk_ok {K : PySem.W.Frag} {S : Hp} {G : Mu → Prop} {p : Addr} {ob : Obj} {kvs : List (Key × V)} {ks : List Key} (hk : kvs.map (·.1) = ks) (h : ∀ (S' H : Hp) (μ F : Mu), Le S S' → R K S' H μ F → G μ → H p = some (.frz ob (.dK kvs))) : ItOk K S G (Itk p ob kvs) (ks.map keyOf) := by
  intro S' H μ F i l r g
  have hp := h S' H μ F l r g
  have hl : kvs.length = ks.length := by rw [← hk, List.length_map]
  refine ⟨fun d hd => ?_, fun hn => ⟨hp, ?_⟩⟩
  · rw [List.getElem?_map, ← hk, List.getElem?_map] at hd
    cases e : kvs[i]? with
    | none => rw [e] at hd; cases hd
    | some q =>
      rw [e] at hd
      cases hd
      refine ⟨⟨hp, (List.getElem?_eq_some_iff.mp e).1⟩, fun x H' ⟨e1, k, v, e2, e3⟩ => ?_⟩
      subst e1; subst e3
      rw [e] at e2
      cases e2
      exact ⟨S', Le.refl S', r, at_key _⟩
  · have := List.getElem?_eq_none_iff.mp hn
    rw [List.length_map] at this
    omega
theorem itkt_ok {K : PySem.W.Frag} {S : Hp} {G : Mu → Prop} {p : Addr} {ob : Obj} {kvs : List (List Key × V)} {ks : List (List Key)} (hk : kvs.map (·.1) = ks) (h : ∀ (S' H : Hp) (μ F : Mu), Le S S' → R K S' H μ F → G μ → H p = some (.frz ob (.dT kvs))) : ItOk K S G (Itkt p ob kvs) (ks.map tkeyOf) := by
  intro S' H μ F i l r g
  have hp := h S' H μ F l r g
  have hl : kvs.length = ks.length := by rw [← hk, List.length_map]
  refine ⟨fun d hd => ?_, fun hn => ⟨hp, ?_⟩⟩
  · rw [List.getElem?_map, ← hk, List.getElem?_map] at hd
    cases e : kvs[i]? with
    | none => rw [e] at hd; cases hd
    | some q =>
      rw [e] at hd
      cases hd
      refine ⟨⟨hp, (List.getElem?_eq_some_iff.mp e).1⟩, fun x H' ⟨e1, k, v, q', e2, e3, e4⟩ => ?_⟩
      subst e1; subst e3
      rw [e] at e2
      cases e2
      obtain ⟨S2, l2, r2, hs⟩ := r.adopt e4
      exact ⟨S2, l2, r2, atL_tup hs (atL_keys _)⟩
  · have := List.getElem?_eq_none_iff.mp hn
    rw [List.length_map] at this
    omega
def dItD (w : TD) : TDI := fun γ μ Ξ Φ => w γ μ Ξ fun d μ1 =>
  (∃ es : List (Key × D), d = .dK es ∧ Φ ((es.map (·.1)).map keyOf) (fun _ => True) μ1) ∨ (∃ es : List (List Key × D), d = .dT es ∧ Φ ((es.map (·.1)).map tkeyOf) (fun _ => True) μ1) ∨
  (∃ a ob kvs es, d = .adr a ∧ μ1 a = some (.lK ob kvs es) ∧ Φ ((es.map (·.1)).map keyOf) (fun μ => μ a = some (.lK ob kvs es)) μ1) ∨ (∃ a ob kvs es, d = .adr a ∧ μ1 a = some (.lT ob kvs es) ∧ Φ ((es.map (·.1)).map tkeyOf) (fun μ => μ a = some (.lT ob kvs es)) μ1)
theorem i_keys {tg e : Expr} {w : TD} (he : PE X e (tD X.K W w)) : PI X tg e (tDI X.K W (dItD w)) :=
  pi_imp (pi_keys he) fun σ H Rr ⟨S, γ, μ, F, Ξ, Φ, hE, hR, hX, hw, hq⟩ => ⟨S, γ, μ, F, Ξ, _, hE, hR, hX, hw, fun S1 H1 v d μ1 l1 r1 a1 q1 => by
    rcases q1 with ⟨es, rfl, q⟩ | ⟨es, rfl, q⟩ | ⟨a, ob, kvs, es, rfl, hm, q⟩ | ⟨a, ob, kvs, es, rfl, hm, q⟩
    · cases a1 with
      | @dK p ob kvs _ hs hk hi => exact ⟨p, ob, rfl, .inl ⟨kvs, r1.imm p _ hs, hq S1 H1 _ _ _ μ1 l1 r1 (itk_ok hk fun S' H μ F l r _ => r.imm p _ (l _ _ hs)) q⟩⟩
    · cases a1 with
      | @dT p ob kvs _ hs hk hi => exact ⟨p, ob, rfl, .inr ⟨kvs, r1.imm p _ hs, hq S1 H1 _ _ _ μ1 l1 r1 (itkt_ok hk fun S' H μ F l r _ => r.imm p _ (l _ _ hs)) q⟩⟩
    · obtain rfl := a1.adr_inv
      obtain ⟨_, o, ho, rfl, t⟩ := r1.sto a _ hm
      exact ⟨a, ob, rfl, .inl ⟨kvs, ho, hq S1 H1 _ _ _ μ1 l1 r1 (itk_ok t.1 fun S' H μ F l r g => by obtain ⟨_, o, ho, rfl, _⟩ := r.sto a _ g; exact ho) q⟩⟩
    · obtain rfl := a1.adr_inv
      obtain ⟨_, o, ho, rfl, t⟩ := r1.sto a _ hm
      exact ⟨a, ob, rfl, .inr ⟨kvs, ho, hq S1 H1 _ _ _ μ1 l1 r1 (itkt_ok t.1 fun S' H μ F l r g => by obtain ⟨_, o, ho, rfl, _⟩ := r.sto a _ g; exact ho) q⟩⟩⟩
/-! ### a statement under which a dict of the store stands locked -/
def unlk (DD : DEnds) (a : Addr) (m m' : MO) : DEnds := ⟨fun γ' μ' => μ' a = some m' ∧ DD.nx γ' (updM μ' a m), fun d μ' => μ' a = some m' ∧ DD.rt d (updM μ' a m), fun γ' μ' => μ' a = some m' ∧ DD.bk γ' (updM μ' a m), fun γ' μ' => μ' a = some m' ∧ DD.ct γ' (updM μ' a m)⟩
def dLk (w : TDS) : TDS := fun DD γ μ Ξ => ∃ a, (∃ es, μ a = some (.dK es) ∧ ∀ ob kvs, w (unlk DD a (.dK es) (.lK ob kvs es)) γ (updM μ a (.lK ob kvs es)) Ξ) ∨ ∃ es, μ a = some (.dT es) ∧ ∀ ob kvs, w (unlk DD a (.dT es) (.lT ob kvs es)) γ (updM μ a (.lT ob kvs es)) Ξ
theorem unlk_ok {K : PySem.W.Frag} {S : Hp} {F : Mu} {DD : DEnds} {D : Ends} {a : Addr} {m m' : MO} {o u : HO} (hD : EOk K S F DD D) (h : ∀ (S' : Hp) (o' : HO), Le S S' → MAt K S' o' m' → o' = u ∧ MAt K S' o m) :
    EOk K S F (unlk DD a m m') ⟨fun σ' H' => H' a = some u ∧ D.nx σ' (upd H' a o), fun v H' => H' a = some u ∧ D.rt v (upd H' a o), fun σ' H' => H' a = some u ∧ D.bk σ' (upd H' a o), fun σ' H' => H' a = some u ∧ D.ct σ' (upd H' a o)⟩ := by
  have go : ∀ {S' H' : Hp} {μ' : Mu}, Le S S' → R K S' H' μ' F → μ' a = some m' → H' a = some u ∧ R K S' (upd H' a o) (updM μ' a m) F := fun {S' H' μ'} l r hm => by
    obtain ⟨_, o', ho, hmt⟩ := r.sto a _ hm
    obtain ⟨e, hm2⟩ := h S' o' l hmt
    subst e
    exact ⟨ho, r.write hm hm2⟩
  refine ⟨fun S' H' σ γ μ l e r ⟨hm, q⟩ => ?_, fun S' H' v d μ l r av ⟨hm, q⟩ => ?_, fun S' H' σ γ μ l e r ⟨hm, q⟩ => ?_, fun S' H' σ γ μ l e r ⟨hm, q⟩ => ?_⟩
  · obtain ⟨h1, r2⟩ := go l r hm; exact ⟨h1, hD.nx S' _ σ γ _ l e r2 q⟩
  · obtain ⟨h1, r2⟩ := go l r hm; exact ⟨h1, hD.rt S' _ v d _ l r2 av q⟩
  · obtain ⟨h1, r2⟩ := go l r hm; exact ⟨h1, hD.bk S' _ σ γ _ l e r2 q⟩
  · obtain ⟨h1, r2⟩ := go l r hm; exact ⟨h1, hD.ct S' _ σ γ _ l e r2 q⟩
theorem s_lk {st : Stmt} {w : TDS} (h : PS X st (tDS X.K W w)) : PS X st (tDS X.K W (dLk w)) :=
  ps_imp (ps_lock h) fun D σ H ⟨S, γ, μ, F, Ξ, DD, hE, hR, hX, ⟨a, hw⟩, hD⟩ => by
    rcases hw with ⟨es, hm, hw⟩ | ⟨es, hm, hw⟩
    · obtain ⟨_, o, ho, hmt⟩ := hR.sto a _ hm
      obtain ⟨kvs, rfl, t⟩ := hmt.dK_inv
      refine ⟨a, _, ho, True.intro, fun od => ⟨S, γ, _, F, Ξ, _, hE, hR.write (m := .lK od kvs es) hm ⟨rfl, t⟩, hX, hw od kvs, unlk_ok hD fun S' o' l hmt => ⟨hmt.1, ?_⟩⟩⟩
      exact hmt.2
    · obtain ⟨_, o, ho, hmt⟩ := hR.sto a _ hm
      obtain ⟨kvs, rfl, t⟩ := hmt.dT_inv
      refine ⟨a, _, ho, True.intro, fun od => ⟨S, γ, _, F, Ξ, _, hE, hR.write (m := .lT od kvs es) hm ⟨rfl, t⟩, hX, hw od kvs, unlk_ok hD fun S' o' l hmt => ⟨hmt.1, ?_⟩⟩⟩
      exact hmt.2
/-! ### {k: v, ..} -/
def dPairs : List (TD × TD) → Ga → Mu → XD → (List (D × D) → Mu → Prop) → Prop
  | [], _, μ, _, Φ => Φ [] μ
  | (wk, wv) :: r, γ, μ, Ξ, Φ => wk γ μ Ξ fun x μ1 => wv γ μ1 Ξ fun y μ2 => dPairs r γ μ2 Ξ fun ps μ3 => Φ ((x, y) :: ps) μ3
def tdPairs (K : PySem.W.Frag) (W : WX) (ws : List (TD × TD)) : List (TE × TE) := ws.map fun p => (tD K W p.1, tD K W p.2)
theorem pairs_go {K : PySem.W.Frag} {F : Mu} {σ : L2.St} {Ξ : XD} : ∀ {ws : List (TD × TD)} {S H : Hp} {γ : Ga} {μ : Mu} {Φ : List (D × D) → Mu → Prop} {Q : List (V × V) → Hp → Prop}, Env K S σ γ → R K S H μ F → XOk K S F W Ξ → dPairs ws γ μ Ξ Φ →
    (∀ S' H' vs ps μ', Le S S' → R K S' H' μ' F → AtL K S' (vs.map (·.1)) (ps.map (·.1)) → AtL K S' (vs.map (·.2)) (ps.map (·.2)) → Φ ps μ' → Q vs H') → tPairs (tdPairs K W ws) σ H Q
  | [], S, H, γ, μ, Φ, Q, hE, hR, hX, hw, hq => hq S H [] [] μ (Le.refl S) hR .nil .nil hw
  | (wk, wv) :: r, S, H, γ, μ, Φ, Q, hE, hR, hX, hw, hq => ⟨S, γ, μ, F, Ξ, _, hE, hR, hX, hw, fun S1 H1 x d μ1 l1 r1 a1 q1 => ⟨S1, γ, μ1, F, Ξ, _, hE.mono l1, r1, hX.mono l1, q1, fun S2 H2 y e μ2 l2 r2 a2 q2 =>
    pairs_go (hE.mono (l1.trans l2)) r2 (hX.mono (l1.trans l2)) q2 fun S3 H3 vs ps μ3 l3 r3 b1 b2 q3 => hq S3 H3 _ ((d, e) :: ps) μ3 (l1.trans (l2.trans l3)) r3 (.cons (a1.mono (l2.trans l3)) b1) (.cons (a2.mono l3) b2) q3⟩⟩
/-- the pairs as a table -/
def keyed : List (D × D) → Option (List (Key × D))
  | [] => some []
  | (x, y) :: r => match keyD x, keyed r with
    | some k, some es => some ((k, y) :: es)
    | _, _ => none
theorem keyed_at {K : PySem.W.Frag} {S : Hp} : ∀ {ps : List (D × D)} {vs : List (V × V)} {es : List (Key × D)}, AtL K S (vs.map (·.1)) (ps.map (·.1)) → AtL K S (vs.map (·.2)) (ps.map (·.2)) → keyed ps = some es → ∃ kvs : List (Key × V), vs = kvs.map (fun kv => (kV kv.1, kv.2)) ∧ Tab K S kvs es
  | [], vs, es, a1, a2, h => by
    cases h
    cases vs with
    | nil => exact ⟨[], rfl, .nil⟩
    | cons v vs => have := a1.1; simp at this
  | (x, y) :: r, vs, es, a1, a2, h => by
    cases vs with
    | nil => have := a1.1; simp at this
    | cons v vs =>
      rw [keyed] at h
      cases h1 : keyD x with
      | none => rw [h1] at h; cases h
      | some k =>
        cases h2 : keyed r with
        | none => rw [h1, h2] at h; cases h
        | some es' =>
          rw [h1, h2] at h
          cases h
          obtain ⟨kvs, e, t⟩ := keyed_at a1.tail a2.tail h2
          refine ⟨(k, v.2) :: kvs, ?_, .cons a2.head t⟩
          rw [List.map_cons, ← e, ← key_at a1.head h1]
theorem valV_notin {κ : Type} [DecidableEq κ] {kvs : List (κ × V)} {k : κ} (h : k ∉ kvs.map (·.1)) : valV kvs k = none := by
  induction kvs with
  | nil => rfl
  | cons p r ih =>
    rw [List.map_cons, List.mem_cons] at h
    rw [valV_neg (fun z => h (.inl z.symm))]
    exact ih fun z => h (.inr z)
theorem mergeK_nd : ∀ (more kvs : List (Key × V)), ((kvs ++ more).map (·.1)).Nodup → mergeK kvs more = kvs ++ more
  | [], kvs, _ => (List.append_nil kvs).symm
  | p :: r, kvs, nd => by
    have e : putK kvs p.1 p.2 = kvs ++ [p] := putK_new p.2 (valV_notin fun hm => by
      rw [List.map_append, List.nodup_append] at nd
      exact nd.2.2 p.1 hm p.1 (by simp) rfl)
    show mergeK (putK kvs p.1 p.2) r = _
    rw [e, mergeK_nd r (kvs ++ [p]) (by simpa using nd), List.append_assoc]; rfl
def dDisp (ws : List (TD × TD)) : TD := fun γ μ Ξ Φ => dPairs ws γ μ Ξ fun ps μ' => ∃ es, keyed ps = some es ∧ (es.map (·.1)).Nodup ∧ es.length ≤ 15 ∧ ∀ p, μ' p = none → Φ (.adr p) (updM μ' p (.dK es))
theorem e_disp {keys : List (Option Expr)} {values : List Expr} {ws : List (TD × TD)} (h : PPs X pos keys values (tdPairs X.K W ws)) (hall : keys.all (·.isSome) = true := by rfl) (hl : keys.length = values.length := by rfl) (h0 : keys ≠ [] := by exact List.cons_ne_nil _ _) (h15 : keys.length ≤ 15 := by decide) :
    PE X (.Dict keys values pos) (tD X.K W (dDisp ws)) :=
  pe_imp (pe_disp h hall hl h0 h15) fun σ H Q ⟨S, γ, μ, F, Ξ, Φ, hE, hR, hX, hw, hq⟩ => fun p hp =>
    pairs_go hE (hR.newR (m := .dK []) hp Tab.nil) (fun S' H' σ' γ' cls xd fs μ' l e r x q => hX S' H' σ' γ' cls xd fs μ' l e ((r.forgetF (F' := F) fun a m z => by
      rw [updM_ne (fun w => by subst w; rw [hR.freeF hp] at z; cases z)]; exact z)) x q) hw fun S1 H1 vs ps μ1 l1 r1 a1 a2 ⟨es, hk, nd, h15, q1⟩ => by
    obtain ⟨hμ, hS, o, ho, hmt⟩ := r1.frm p _ updM_same
    obtain ⟨kvs0, rfl, t0⟩ := hmt.dK_inv
    have e0 : kvs0 = [] := List.length_eq_zero_iff.mp (Tab.length t0)
    subst e0
    obtain ⟨kvs, e, t⟩ := keyed_at a1 a2 hk
    refine ⟨ho, kvs, e, by rw [Tab.length t]; exact h15, ?_⟩
    rw [mergeK_nd kvs [] (by rw [List.nil_append, t.1]; exact nd), List.nil_append]
    have r2 := r1.toM (hR.freeF hp)
    have r3 := r2.write (o := .dK kvs) (m := .dK es) updM_same t
    rw [updM_updM] at r3
    exact hq S1 _ (.ref p) (.adr p) _ l1 r3 (.adr p) (q1 p hμ)
theorem p_nil : PPs X pos [] [] (tdPairs X.K W []) := pps_nil
theorem p_cons {k v : Expr} {ks : List (Option Expr)} {vs : List Expr} {wk wv : TD} {ws : List (TD × TD)} (hk : PE X k (tD X.K W wk)) (hv : PE X v (tD X.K W wv)) (hr : PPs X pos ks vs (tdPairs X.K W ws)) : PPs X pos (some k :: ks) (v :: vs) (tdPairs X.K W ((wk, wv) :: ws)) := pps_cons hk hv hr
end
end DL

/-! # DL17: comprehensions with two fors -/
namespace DL
open PySem L2
section
variable {X : Cx} {W : WX}
/-- the turns of the inner for -/
def dIn1 (wg1 : TDC) (wt1 : TDT) (we : TD) (vs1 : List Nat) (γ2 : Ga) (acc0 : List D) (ds1 : List D) (G1 : Mu → Prop) (μ4 : Mu) (K' : List D → Mu → Prop) : Prop := ∃ I1 : Nat → List D → Mu → Prop, I1 0 acc0 μ4 ∧ (∀ j acc μ', I1 j acc μ' → G1 μ') ∧
  (∀ j d acc μ', ds1[j]? = some d → I1 j acc μ' → wg1 d (wipeG γ2 vs1) fun γ3 => wt1 γ3 μ' X0 fun b μ5 => if b = true then we γ3 μ5 X0 fun e μ6 => acc.length < sizeLine ∧ I1 (j + 1) (acc ++ [e]) μ6 else I1 (j + 1) acc μ5) ∧ ∀ acc μ', I1 ds1.length acc μ' → K' acc μ'
def dLc2T (wg : TDC) (wt : TDT) (wi1 : TDI) (wg1 : TDC) (wt1 : TDT) (we : TD) (vs vs1 : List Nat) (γ : Ga) (ds : List D) (G : Mu → Prop) (μ1 : Mu) (Φ : List D → Mu → Prop) : Prop := ∃ I : Nat → List D → Mu → Prop, I 0 [] μ1 ∧ (∀ i acc μ', I i acc μ' → G μ') ∧
  (∀ i d acc μ', ds[i]? = some d → I i acc μ' → wg d (wipeG γ vs) fun γ2 => wt γ2 μ' X0 fun b μ3 => if b = true then wi1 γ2 μ3 X0 fun ds1 G1 μ4 => dIn1 wg1 wt1 we vs1 γ2 acc ds1 G1 μ4 (I (i + 1)) else I (i + 1) acc μ3) ∧ ∀ acc μ', I ds.length acc μ' → Φ acc μ'
theorem in1_go {K : PySem.W.Frag} {S4 H4 : Hp} {μ4 F : Mu} {J1 : It} {ds1 acc0 : List D} {G1 : Mu → Prop} {g1 : TG} {wg1 : TDC} {wt1 : TDT} {we : TD} {vs1 : List Nat} {σ2 : L2.St} {γ2 : Ga} {Dd : Addr} {K' : List D → Mu → Prop} {Nx : Hp → Prop}
    (ct : CompT K vs1 g1 wg1) (hE : Env K S4 σ2 γ2) (r4 : R K S4 H4 μ4 (updM F Dd (.lst acc0))) (it : ItOk K S4 G1 J1 ds1) (h : dIn1 wg1 wt1 we vs1 γ2 acc0 ds1 G1 μ4 K')
    (fin : ∀ S' H' acc μ', Le S4 S' → R K S' H' μ' (updM F Dd (.lst acc)) → K' acc μ' → Nx H') :
    ∃ W1 : Nat → Nat → Hp → Prop, (∃ m, W1 0 m H4) ∧ ∀ j k H, W1 j k H →
      (J1.stop j H ∧ Nx H) ∨ (J1.go j H ∧ ∃ Nx1 : Hp → Prop, (∀ H', Nx1 H' → ∃ k', k' < k ∧ W1 (j + 1) k' H') ∧ ∀ x H', J1.yld j H x H' → g1 x (wipe σ2 vs1) H' fun σ3 H5 => wipe σ3 vs1 = wipe σ2 vs1 ∧ tDT K W0 wt1 σ3 H5 fun b H6 =>
        if b = true then tD K W0 we σ3 H6 fun y H7 => ∃ acc, H7 Dd = some (.lst acc) ∧ acc.length < sizeLine ∧ Nx1 (upd H7 Dd (.lst (acc ++ [y]))) else Nx1 H6) := by
  obtain ⟨I1, i0, ig, is, ie⟩ := h
  refine ⟨fun j k H => k = ds1.length - j ∧ j ≤ ds1.length ∧ ∃ S' acc μ', Le S4 S' ∧ R K S' H μ' (updM F Dd (.lst acc)) ∧ I1 j acc μ', ⟨ds1.length, by simp, Nat.zero_le _, S4, acc0, μ4, Le.refl S4, r4, i0⟩, ?_⟩
  rintro j k H ⟨rfl, hj, S5, acc, μ5, l5, r5, q5⟩
  have io := it S5 H μ5 _ j l5 r5 (ig j acc μ5 q5)
  by_cases hlt : j < ds1.length
  · have hd : ds1[j]? = some ds1[j] := List.getElem?_eq_getElem hlt
    obtain ⟨go, yl⟩ := io.1 _ hd
    refine .inr ⟨go, fun H' => ∃ S' acc μ', Le S4 S' ∧ R K S' H' μ' (updM F Dd (.lst acc)) ∧ I1 (j + 1) acc μ', fun H' z => ⟨ds1.length - (j + 1), by omega, rfl, hlt, z⟩, fun x H' y => ?_⟩
    obtain ⟨S6, l6, r6, a6⟩ := yl x H' y
    have ww : wipe (wipe σ2 vs1) vs1 = wipe σ2 vs1 := wipe_setIn (wipe_length σ2 vs1) fun j hj => by rw [wipe_get, if_neg (fun q => hj q.1)]
    refine ct.go S6 H' μ5 _ (wipe σ2 vs1) (wipeG γ2 vs1) x ds1[j] _ _ (env_wipe (hE.mono (l5.trans l6)) vs1) r6 a6 (is j _ acc μ5 hd q5) fun σ' γ' e' w' q' => ⟨w'.trans ww, ?_⟩
    refine ⟨S6, γ', μ5, _, X0, _, e', r6, xok0, q', fun S7 H7 b μ7 l7 r7 q7 => ?_⟩
    cases b with
    | false => rw [if_neg Bool.false_ne_true] at q7 ⊢; exact ⟨S7, acc, μ7, l5.trans (l6.trans l7), r7, q7⟩
    | true =>
      rw [if_pos rfl] at q7 ⊢
      refine ⟨S7, γ', μ7, _, X0, _, e'.mono l7, r7, xok0, q7, fun S8 H8 v d μ8 l8 r8 a8 ⟨hz, q8⟩ => ?_⟩
      obtain ⟨_, _, o, ho, hm⟩ := r8.frm Dd _ updM_same
      obtain ⟨zs, rfl, hm⟩ := lst_mat hm
      have z := r8.writeF (o := .lst (zs ++ [v])) (m := .lst (acc ++ [d])) updM_same (hm.append (.cons a8 .nil))
      rw [updM_updM] at z
      exact ⟨zs, ho, by rw [hm.1]; exact hz, S8, acc ++ [d], μ8, l5.trans (l6.trans (l7.trans l8)), z, q8⟩
  · have e : j = ds1.length := by omega
    subst e
    exact .inl ⟨io.2 (List.getElem?_eq_none (Nat.le_refl _)), fin S5 H acc μ5 l5 r5 (ie acc μ5 q5)⟩
theorem lc2_go {K : PySem.W.Frag} {S1 H1 : Hp} {μ1 F : Mu} {J : It} {ds : List D} {G : Mu → Prop} {g g1 : TG} {wg wg1 : TDC} {wt wt1 : TDT} {wi1 : TDI} {we : TD} {vs vs1 : List Nat} {σ : L2.St} {γ : Ga} {Dd : Addr} {Φ : List D → Mu → Prop} {Q : Hp → Prop}
    (ct : CompT K vs g wg) (ct1 : CompT K vs1 g1 wg1) (hE : Env K S1 σ γ) (r1 : R K S1 H1 μ1 F) (it : ItOk K S1 G J ds) (hD : H1 Dd = none) (h : dLc2T wg wt wi1 wg1 wt1 we vs vs1 γ ds G μ1 Φ)
    (fin : ∀ S' H' zs acc μ', Le S1 S' → R K S' H' μ' (updM F Dd (.lst acc)) → H' Dd = some (.lst zs) → AtL K S' zs acc → Φ acc μ' → Q H') :
    ∃ W : Nat → Nat → Hp → Prop, (∃ m, W 0 m (upd H1 Dd (.lst []))) ∧ ∀ i m H, W i m H →
      (J.stop i H ∧ Q H) ∨ (J.go i H ∧ ∃ Nx : Hp → Prop, (∀ H', Nx H' → ∃ m', m' < m ∧ W (i + 1) m' H') ∧ ∀ x H', J.yld i H x H' → g x (wipe σ vs) H' fun σ2 H2 => wipe σ2 vs = wipe σ vs ∧ tDT K W0 wt σ2 H2 fun b H3 =>
        if b = true then tDI K W0 wi1 σ2 H3 fun J1 H4 => ∃ W1 : Nat → Nat → Hp → Prop, (∃ m, W1 0 m H4) ∧ ∀ j k H, W1 j k H →
          (J1.stop j H ∧ Nx H) ∨ (J1.go j H ∧ ∃ Nx1 : Hp → Prop, (∀ H', Nx1 H' → ∃ k', k' < k ∧ W1 (j + 1) k' H') ∧ ∀ x H', J1.yld j H x H' → g1 x (wipe σ2 vs1) H' fun σ3 H5 => wipe σ3 vs1 = wipe σ2 vs1 ∧ tDT K W0 wt1 σ3 H5 fun b H6 =>
            if b = true then tD K W0 we σ3 H6 fun y H7 => ∃ acc, H7 Dd = some (.lst acc) ∧ acc.length < sizeLine ∧ Nx1 (upd H7 Dd (.lst (acc ++ [y]))) else Nx1 H6)
        else Nx H3) := by
  obtain ⟨I, i0, ig, is, ie⟩ := h
  refine ⟨fun i m H => m = ds.length - i ∧ i ≤ ds.length ∧ ∃ S' acc μ', Le S1 S' ∧ R K S' H μ' (updM F Dd (.lst acc)) ∧ I i acc μ', ⟨ds.length, by simp, Nat.zero_le _, S1, [], μ1, Le.refl S1, r1.newR hD (m := .lst []) .nil, i0⟩, ?_⟩
  rintro i m H ⟨rfl, hi, S2, acc, μ2, l2, r2, q2⟩
  have io := it S2 H μ2 _ i l2 r2 (ig i acc μ2 q2)
  by_cases hlt : i < ds.length
  · have hd : ds[i]? = some ds[i] := List.getElem?_eq_getElem hlt
    obtain ⟨go, yl⟩ := io.1 _ hd
    refine .inr ⟨go, fun H' => ∃ S' acc μ', Le S1 S' ∧ R K S' H' μ' (updM F Dd (.lst acc)) ∧ I (i + 1) acc μ', fun H3 z => ⟨ds.length - (i + 1), by omega, rfl, hlt, z⟩, fun x H3 y => ?_⟩
    obtain ⟨S3, l3, r3, a3⟩ := yl x H3 y
    have ww : wipe (wipe σ vs) vs = wipe σ vs := wipe_setIn (wipe_length σ vs) fun j hj => by rw [wipe_get, if_neg (fun q => hj q.1)]
    refine ct.go S3 H3 μ2 _ (wipe σ vs) (wipeG γ vs) x ds[i] _ _ (env_wipe (hE.mono (l2.trans l3)) vs) r3 a3 (is i _ acc μ2 hd q2) fun σ' γ' e' w' q' => ⟨w'.trans ww, ?_⟩
    refine ⟨S3, γ', μ2, _, X0, _, e', r3, xok0, q', fun S4 H4 b μ4 l4 r4 q4 => ?_⟩
    cases b with
    | false => rw [if_neg Bool.false_ne_true] at q4 ⊢; exact ⟨S4, acc, μ4, l2.trans (l3.trans l4), r4, q4⟩
    | true =>
      rw [if_pos rfl] at q4 ⊢
      refine ⟨S4, γ', μ4, _, X0, _, e'.mono l4, r4, xok0, q4, fun S5 H5 J1 ds1 G1 μ5 l5 r5 it1 q5 => ?_⟩
      exact in1_go ct1 (e'.mono (l4.trans l5)) r5 it1 q5 fun S6 H6 acc6 μ6 l6 r6 q6 => ⟨S6, acc6, μ6, l2.trans (l3.trans (l4.trans (l5.trans l6))), r6, q6⟩
  · have e : i = ds.length := by omega
    subst e
    obtain ⟨_, _, o, ho, hm⟩ := r2.frm Dd _ updM_same
    obtain ⟨zs, rfl, hm⟩ := lst_mat hm
    exact .inl ⟨io.2 (List.getElem?_eq_none (Nat.le_refl _)), fin S2 H zs acc μ2 l2 r2 ho hm (ie acc μ2 q2)⟩
def dLc2 (wi : TDI) (wg : TDC) (wt : TDT) (wi1 : TDI) (wg1 : TDC) (wt1 : TDT) (we : TD) (vs vs1 : List Nat) : TD := fun γ μ Ξ Φ => wi γ μ Ξ fun ds G μ1 => dLc2T wg wt wi1 wg1 wt1 we vs vs1 γ ds G μ1 fun acc μ' => Φ (.lst acc) μ'
theorem lc2_read {K : PySem.W.Frag} {Wx : WX} {σ : L2.St} {H : Hp} {Q : VK} {g g1 : TG} {wi wi1 : TDI} {wg wg1 : TDC} {wt wt1 : TDT} {we : TD} {vs vs1 : List Nat} (ct : CompT K vs g wg) (ct1 : CompT K vs1 g1 wg1) (h : tD K Wx (dLc2 wi wg wt wi1 wg1 wt1 we vs vs1) σ H Q) : tLc2 (tDI K Wx wi) g (tDT K W0 wt) (tDI K W0 wi1) g1 (tDT K W0 wt1) (tD K W0 we) vs vs1 σ H Q := by
  obtain ⟨S, γ, μ, F, Ξ, Φ, hE, hR, hX, hw, hq⟩ := h
  refine ⟨S, γ, μ, F, Ξ, _, hE, hR, hX, hw, fun S1 H1 J ds G μ1 l1 r1 it q1 => fun Dd hD => ?_⟩
  refine lc2_go ct ct1 (hE.mono l1) r1 it hD q1 fun S2 H2 vs acc μ2 l2 r2 h2 a2 q2 => ?_
  obtain ⟨S3, l3, r3, a3⟩ := lc_end (r1.freeF hD) r2 h2 a2
  exact hq S3 H2 _ _ μ2 (l1.trans (l2.trans l3)) r3 a3 q2
section
variable {elt tg iter tg1 iter1 : Expr} {ifs ifs1 : List Expr} {scope : Scope} {own : List (Str × Nat)} {vs1 : List Nat} {pos spos py : Pos} {wi wi1 : TDI} {g g1 : TG} {wg wg1 : TDC} {wt wt1 : TDT} {we : TD}
theorem e_lc2 (hc : X.calm = true) (hN : X.N.Nodup) (ct : CompT X.K (own.map (·.2)) g wg) (ct1 : CompT X.K vs1 g1 wg1) (hi : PI X tg iter (tDI X.K W wi)) (ok : BlkOk X.N X.env.scope scope own) (hv : ∀ i ∈ vs1, i ∈ own.map (·.2))
    (hg : ∀ (s : Shared) (H : Hp) (C : Addr) (cl : List (Str × Addr)) (fp : List Addr), PG (X.blk s H scope (compEnvC scope cl C X.env) fp) tg g) (ht : ∀ (s : Shared) (H : Hp) (C : Addr) (cl : List (Str × Addr)) (fp : List Addr), PTs (X.blk s H scope (compEnvC scope cl C X.env) fp) ifs (tDT X.K W0 wt))
    (hi1 : ∀ (s : Shared) (H : Hp) (C : Addr) (cl : List (Str × Addr)) (fp : List Addr), PI (X.blk s H scope (compEnvC scope cl C X.env) fp) tg1 iter1 (tDI X.K W0 wi1))
    (hg1 : ∀ (s : Shared) (H : Hp) (C : Addr) (cl : List (Str × Addr)) (fp : List Addr), PG (X.blk s H scope (compEnvC scope cl C X.env) fp) tg1 g1) (ht1 : ∀ (s : Shared) (H : Hp) (C : Addr) (cl : List (Str × Addr)) (fp : List Addr), PTs (X.blk s H scope (compEnvC scope cl C X.env) fp) ifs1 (tDT X.K W0 wt1))
    (he : ∀ (s : Shared) (H : Hp) (C : Addr) (cl : List (Str × Addr)) (fp : List Addr), PE (X.blk s H scope (compEnvC scope cl C X.env) fp) elt (tD X.K W0 we)) (hs : ∀ x, foldedSetIterable iter X.env x = pure x := by intro _; rfl) (hs1 : ∀ env x, foldedSetIterable iter1 env x = pure x := by intro _ _; rfl) :
    PE X (.ListComp elt [⟨tg, iter, ifs, 0⟩, ⟨tg1, iter1, ifs1, 0⟩] scope pos) (tD X.K W (dLc2 wi wg wt wi1 wg1 wt1 we (own.map (·.2)) vs1)) :=
  pe_imp (pe_lc2 hc hN hi ok hv hg ht hi1 hg1 ht1 he hs hs1) fun _ _ _ h => lc2_read ct ct1 h
theorem s_setLc2 (i : Nat) {y : Str} (hc : X.calm = true) (hN : X.N.Nodup) (ct : CompT X.K (own.map (·.2)) g wg) (ct1 : CompT X.K vs1 g1 wg1) (hi : PI X tg iter (tDI X.K W wi)) (ok : BlkOk X.N X.env.scope scope own) (hv : ∀ i ∈ vs1, i ∈ own.map (·.2))
    (hg : ∀ (s : Shared) (H : Hp) (C : Addr) (cl : List (Str × Addr)) (fp : List Addr), PG (X.blk s H scope (compEnvC scope cl C X.env) fp) tg g) (ht : ∀ (s : Shared) (H : Hp) (C : Addr) (cl : List (Str × Addr)) (fp : List Addr), PTs (X.blk s H scope (compEnvC scope cl C X.env) fp) ifs (tDT X.K W0 wt))
    (hi1 : ∀ (s : Shared) (H : Hp) (C : Addr) (cl : List (Str × Addr)) (fp : List Addr), PI (X.blk s H scope (compEnvC scope cl C X.env) fp) tg1 iter1 (tDI X.K W0 wi1))
    (hg1 : ∀ (s : Shared) (H : Hp) (C : Addr) (cl : List (Str × Addr)) (fp : List Addr), PG (X.blk s H scope (compEnvC scope cl C X.env) fp) tg1 g1) (ht1 : ∀ (s : Shared) (H : Hp) (C : Addr) (cl : List (Str × Addr)) (fp : List Addr), PTs (X.blk s H scope (compEnvC scope cl C X.env) fp) ifs1 (tDT X.K W0 wt1))
    (he : ∀ (s : Shared) (H : Hp) (C : Addr) (cl : List (Str × Addr)) (fp : List Addr), PE (X.blk s H scope (compEnvC scope cl C X.env) fp) elt (tD X.K W0 we))
    (hsw : swapsWith (.ListComp elt [⟨tg, iter, ifs, 0⟩, ⟨tg1, iter1, ifs1, 0⟩] scope pos) (some (.Name y py)) spos.line X.env = pure true := by exact sw_true rfl rfl rfl (by decide +kernel)) (hy : X.N[i]? = some y := by rfl) (hyl : X.env.scope.names.lookup y = some .local := by rfl)
    (hs : ∀ x, foldedSetIterable iter X.env x = pure x := by intro _; rfl) (hs1 : ∀ env x, foldedSetIterable iter1 env x = pure x := by intro _ _; rfl) :
    PS X (.Assign [.Name y py] (.ListComp elt [⟨tg, iter, ifs, 0⟩, ⟨tg1, iter1, ifs1, 0⟩] scope pos) spos) (tDS X.K W (dAsg (dLc2 wi wg wt wi1 wg1 wt1 we (own.map (·.2)) vs1) (gNm i))) :=
  ps_imp (ps_setLc2 hc hN hy hyl hsw hi ok hv hg ht hi1 hg1 ht1 he hs hs1) fun D σ H ⟨S, γ, μ, F, Ξ, DD, hE, hR, hX, hw, hD⟩ => lc2_read ct ct1 ⟨S, γ, μ, F, Ξ, _, hE, hR, hX, hw, fun S1 H1 v d μ1 l1 r1 a1 q1 => hD.nx S1 H1 _ _ μ1 l1 ((hE.mono l1).set a1) r1 q1⟩
end
end
end DL

/-! # DL18: more readings step by step -/
namespace DL
open PySem L2
theorem len_app (x y : Str) : (x ++ y).length = x.length + y.length := by
  show (x.cps ++ y.cps).size = _
  rw [Array.size_append]; rfl
section
variable {γ : Ga} {μ : Mu} {Ξ : XD} {Φ : KD} {Ψ : Bool → Mu → Prop} {Λ : List D → Mu → Prop} {nx bk ct : Ga → Mu → Prop} {rt : KD} {d e : D} {i : Nat} {K' : Ga → Mu → Prop}
theorem dFgt_i {w : TD} (h : w γ μ Ξ fun d μ1 => ∃ μ2 : Mu, (∀ a m, μ2 a = some m → μ1 a = some m) ∧ Φ d μ2) : dFgt w γ μ Ξ Φ := h
theorem dDisp_i {ws : List (TD × TD)} (h : dPairs ws γ μ Ξ fun ps μ' => ∃ es, keyed ps = some es ∧ (es.map (·.1)).Nodup ∧ es.length ≤ 15 ∧ ∀ p, μ' p = none → Φ (.adr p) (updM μ' p (.dK es))) : dDisp ws γ μ Ξ Φ := h
theorem dPairs_n {Q : List (D × D) → Mu → Prop} (h : Q [] μ) : dPairs [] γ μ Ξ Q := h
theorem dPairs_c {Q : List (D × D) → Mu → Prop} {wk wv : TD} {r : List (TD × TD)} (h : wk γ μ Ξ fun x μ1 => wv γ μ1 Ξ fun y μ2 => dPairs r γ μ2 Ξ fun ps μ3 => Q ((x, y) :: ps) μ3) : dPairs ((wk, wv) :: r) γ μ Ξ Q := h
theorem gDx_i {wo wi : TD} (h : wo γ μ Ξ fun o μ1 => wi γ μ1 Ξ fun i μ2 => ∃ a, o = .adr a ∧ ((∃ es k, μ2 a = some (.dK es) ∧ keyD i = some k ∧ es.length < sizeLine ∧ K' γ (updM μ2 a (.dK (putKD es k d)))) ∨ ∃ es k, μ2 a = some (.dT es) ∧ tkeyD i = some k ∧ es.length < sizeLine ∧ K' γ (updM μ2 a (.dT (putKD es k d))))) : gDx wo wi d γ μ Ξ K' := h
theorem dItD_i {w : TD} {Q : List D → (Mu → Prop) → Mu → Prop} (h : w γ μ Ξ fun d μ1 =>
  (∃ es : List (Key × D), d = .dK es ∧ Q ((es.map (·.1)).map keyOf) (fun _ => True) μ1) ∨ (∃ es : List (List Key × D), d = .dT es ∧ Q ((es.map (·.1)).map tkeyOf) (fun _ => True) μ1) ∨
  (∃ a ob kvs es, d = .adr a ∧ μ1 a = some (.lK ob kvs es) ∧ Q ((es.map (·.1)).map keyOf) (fun μ => μ a = some (.lK ob kvs es)) μ1) ∨ (∃ a ob kvs es, d = .adr a ∧ μ1 a = some (.lT ob kvs es) ∧ Q ((es.map (·.1)).map tkeyOf) (fun μ => μ a = some (.lT ob kvs es)) μ1)) : dItD w γ μ Ξ Q := h
theorem dItS_i {w : TD} {Q : List D → (Mu → Prop) → Mu → Prop} (h : w γ μ Ξ fun d μ1 => ∃ x, d = .str x ∧ Q (signsD x) (fun _ => True) μ1) : dItS w γ μ Ξ Q := h
theorem dLc2_i {wi wi1 : TDI} {wg wg1 : TDC} {wt wt1 : TDT} {we : TD} {vs vs1 : List Nat} (h : wi γ μ Ξ fun ds G μ1 => dLc2T wg wt wi1 wg1 wt1 we vs vs1 γ ds G μ1 fun acc μ' => Φ (.lst acc) μ') : dLc2 wi wg wt wi1 wg1 wt1 we vs vs1 γ μ Ξ Φ := h
theorem dChainV_i {o1 o2 : OD} {wa wb wc : TD} (h : wa γ μ Ξ fun x μ1 => wb γ μ1 Ξ fun y μ2 => o1 x y μ2 fun z μ3 => ∃ k, z = .bl k ∧ if k = true then wc γ μ3 Ξ fun e μ4 => o2 y e μ4 Φ else Φ (.bl false) μ3) : dChainV o1 o2 wa wb wc γ μ Ξ Φ := h
theorem dGet2_i {wo wi wx : TD} (h : wo γ μ Ξ fun d μ1 => isDct μ1 d ∧ wi γ μ1 Ξ fun e μ2 => wx γ μ2 Ξ fun z μ3 => ∃ o, dGetD μ3 d e = some o ∧ Φ (o.getD z) μ3) : dDGet2 wo wi wx γ μ Ξ Φ := h
theorem dOwnIx_i {C : Addr} {w : TF} {wo wi : TD} (h : wo γ μ Ξ fun d μ1 => wi γ μ1 Ξ fun e μ2 => (∃ fs, insD μ2 d = some (C, fs)) ∧ w [d, e] μ2 (Ξ γ) Φ) : dOwnIx C w wo wi γ μ Ξ Φ := h
theorem gOwn_i {C : Addr} {w : TF} {wo wi : TD} (h : wo γ μ Ξ fun o μ1 => wi γ μ1 Ξ fun i μ2 => (∃ fs, insD μ2 o = some (C, fs)) ∧ w [o, i, d] μ2 (Ξ γ) fun _ μ3 => K' γ μ3) : gOwn C w wo wi d γ μ Ξ K' := h
theorem dBmF_i {w : List D → BF} {wo : TD} {t : TDA} (h : wo γ μ Ξ fun d μ1 => ∃ xs, d = .ftup xs ∧ t γ μ1 Ξ fun ds μ2 => w xs ds μ2 Φ) : dBmF w wo t γ μ Ξ Φ := h
theorem dSlTT_i {w : TD} {wl wh : TDO} (h : w γ μ Ξ fun d μ1 => wl γ μ1 Ξ fun lo μ2 => wh γ μ2 Ξ fun hi μ3 => ∃ ds, tupD d = some ds ∧ (d = .tup ds ∨ (cutD ds lo hi).length ≠ ds.length) ∧ Φ (.tup (cutD ds lo hi)) μ3) : dSlTT w wl wh γ μ Ξ Φ := h
theorem dTry_i {M : Value → Bool → Prop} {wb ws : TDS} (h : wb ⟨nx, rt, bk, ct⟩ γ μ fun γ' cls fs μ' => ∃ b, M cls b ∧ (b = true → ws ⟨nx, rt, bk, ct⟩ γ' μ' Ξ) ∧ (b = false → Ξ γ' cls fs μ')) : dTry M wb ws ⟨nx, rt, bk, ct⟩ γ μ Ξ := h
theorem dNewK_i (h : ∀ p, μ p = none → Φ (.adr p) (updM μ p (.dK []))) : dNewK γ μ Ξ Φ := h
theorem dNewT_i (h : ∀ p, μ p = none → Φ (.adr p) (updM μ p (.dT []))) : dNewT γ μ Ξ Φ := h
theorem dGh_i {w : TDS} (h : w ⟨fun γ' μ' => Gh γ' μ' nx, rt, bk, ct⟩ γ μ Ξ) : dGh w ⟨nx, rt, bk, ct⟩ γ μ Ξ := h
theorem gTp_tup {n : Nat} {g : TDGs} {ds : List D} (hl : ds.length = n) (h : g ds γ μ Ξ K') : gTp n g (.tup ds) γ μ Ξ K' := ⟨ds, rfl, hl, h⟩
theorem gCn_i {g : TDG} {gs : TDGs} {ds : List D} (h : g d γ μ Ξ fun γ1 μ1 => gs ds γ1 μ1 Ξ K') : gCn g gs (d :: ds) γ μ Ξ K' := ⟨d, ds, rfl, h⟩
theorem gNl_i (h : K' γ μ) : gNl [] γ μ Ξ K' := ⟨rfl, h⟩
theorem beta_i {P : KD} (h : P d μ) : (fun d1 μ1 => P d1 μ1) d μ := h
theorem putD_len {f : Str} {d : D} : ∀ fs : List (Str × D), (putD f d fs).length ≤ fs.length + 1
  | [] => by simp [putD]
  | p :: r => by
    have := putD_len (f := f) (d := d) r
    unfold putD
    split <;> simp <;> omega
/-! comprehensions with two fors, the store stays -/
theorem in1_filter {β : Type} {wg1 : TDC} {wt1 : TDT} {we : TD} {vs1 : List Nat} {G1 : Mu → Prop} {acc0 : List D} {Q : List D → Mu → Prop} {ys : List β} (f1 g : β → D) (p : β → Bool) (hz : acc0.length + ys.length ≤ sizeLine) (hG : G1 μ)
    (hs : ∀ y, y ∈ ys → ∀ U : Option D → Mu → Prop, U (if p y = true then some (g y) else none) μ → wg1 (f1 y) (wipeG γ vs1) fun γ3 => wt1 γ3 μ X0 fun b μ5 => if b = true then we γ3 μ5 X0 fun e => U (some e) else U none μ5)
    (he : Q (acc0 ++ (ys.filter p).map g) μ) : dIn1 wg1 wt1 we vs1 γ acc0 (ys.map f1) G1 μ Q := by
  have pre : ∀ i : Nat, ((ys.take i).filter p).length ≤ i := fun i => Nat.le_trans (List.length_filter_le ..) (by simp; omega)
  refine ⟨fun i acc μ' => acc = acc0 ++ ((ys.take i).filter p).map g ∧ μ' = μ, ⟨by simp, rfl⟩, fun i acc μ' ⟨_, h⟩ => h ▸ hG, ?_, ?_⟩
  · rintro i d acc μ' hd ⟨ha, hm⟩
    subst ha
    subst hm
    rw [List.getElem?_map] at hd
    cases hx : ys[i]? with
    | none => rw [hx] at hd; cases hd
    | some x =>
      rw [hx] at hd
      cases hd
      have hi := (List.getElem?_eq_some_iff.mp hx).1
      have e1 : ys.take (i + 1) = ys.take i ++ [x] := by rw [List.take_succ, hx]; rfl
      exact hs x (List.mem_of_getElem? hx) (fun o μ4 => match o with
        | some e => (acc0 ++ ((ys.take i).filter p).map g).length < sizeLine ∧ (acc0 ++ ((ys.take i).filter p).map g) ++ [e] = acc0 ++ ((ys.take (i + 1)).filter p).map g ∧ μ4 = μ'
        | none => acc0 ++ ((ys.take i).filter p).map g = acc0 ++ ((ys.take (i + 1)).filter p).map g ∧ μ4 = μ') (by
          rw [e1, List.filter_append]
          by_cases q : p x = true
          · rw [if_pos q]
            have := pre i
            exact ⟨by rw [List.length_append, List.length_map]; omega, by simp [List.filter_cons, q], rfl⟩
          · rw [if_neg q]
            exact ⟨by simp [List.filter_cons, q], rfl⟩)
  · rintro acc μ' ⟨rfl, rfl⟩
    have : (ys.map f1).length = ys.length := List.length_map ..
    rw [this, List.take_of_length_le (Nat.le_refl _)]
    exact he
theorem lc2_pure {α : Type} {wg wg1 : TDC} {wt wt1 : TDT} {wi1 : TDI} {we : TD} {vs vs1 : List Nat} {G : Mu → Prop} {Q : List D → Mu → Prop} {xs : List α} (f : α → D) (r : α → List D) (hz : (xs.flatMap r).length ≤ sizeLine) (hG : G μ)
    (hs : ∀ x, x ∈ xs → ∀ (acc0 : List D) (K1 : List D → Mu → Prop), acc0.length + (r x).length ≤ sizeLine → K1 (acc0 ++ r x) μ → wg (f x) (wipeG γ vs) fun γ2 => wt γ2 μ X0 fun b μ3 => if b = true then wi1 γ2 μ3 X0 fun ds1 G1 μ4 => dIn1 wg1 wt1 we vs1 γ2 acc0 ds1 G1 μ4 K1 else K1 acc0 μ3)
    (he : Q (xs.flatMap r) μ) : dLc2T wg wt wi1 wg1 wt1 we vs vs1 γ (xs.map f) G μ Q := by
  refine ⟨fun i acc μ' => acc = (xs.take i).flatMap r ∧ μ' = μ, ⟨by simp, rfl⟩, fun i acc μ' ⟨_, h⟩ => h ▸ hG, ?_, ?_⟩
  · rintro i d acc μ' hd ⟨ha, hm⟩
    subst ha
    subst hm
    rw [List.getElem?_map] at hd
    cases hx : xs[i]? with
    | none => rw [hx] at hd; cases hd
    | some x =>
      rw [hx] at hd
      cases hd
      have e1 : xs.take (i + 1) = xs.take i ++ [x] := by rw [List.take_succ, hx]; rfl
      have e2 : (xs.take (i + 1)).flatMap r = (xs.take i).flatMap r ++ r x := by rw [e1]; simp
      refine hs x (List.mem_of_getElem? hx) _ _ ?_ ⟨e2.symm, rfl⟩
      rw [← List.length_append, ← e2]
      refine Nat.le_trans ?_ hz
      have e3 : xs.flatMap r = (xs.take (i + 1)).flatMap r ++ (xs.drop (i + 1)).flatMap r := by rw [← List.flatMap_append, List.take_append_drop]
      rw [e3, List.length_append]; omega
  · rintro acc μ' ⟨rfl, rfl⟩
    have : (xs.map f).length = xs.length := List.length_map ..
    rw [this, List.take_of_length_le (Nat.le_refl _)]
    exact he
end
end DL

/-! # DL19: loops, stores -/
namespace DL
open PySem L2
section
variable {γ : Ga} {μ : Mu} {Ξ : XD} {Φ : KD} {nx bk ct : Ga → Mu → Prop} {rt : KD} {wg : TDG} {wb : TDS} {G : Mu → Prop} {α : Type}
/-- the body of a for, as dFor_i leaves it -/
abbrev ForT (ds : List D) (G : Mu → Prop) (wg : TDG) (wb : TDS) (γ : Ga) (μ : Mu) (Ξ : XD) (nx : Ga → Mu → Prop) (rt : KD) : Prop := ∃ I : Nat → Ga → Mu → Prop, I 0 γ μ ∧ (∀ i γ' μ', I i γ' μ' → G μ') ∧
  (∀ i d γ' μ', ds[i]? = some d → I i γ' μ' → wg d γ' μ' Ξ fun γ2 μ2 => wb ⟨I (i + 1), rt, nx, I (i + 1)⟩ γ2 μ2 Ξ) ∧ ∀ γ' μ', I ds.length γ' μ' → nx γ' μ'
/-- a for over the items, by the part that is done -/
theorem for_pre {xs : List α} (f : α → D) (J : List α → Ga → Mu → Prop) (h0 : J [] γ μ) (hG : ∀ ys γ' μ', J ys γ' μ' → G μ')
    (hs : ∀ ys x zs, xs = ys ++ x :: zs → ∀ γ' μ', J ys γ' μ' → ∀ U : Ga → Mu → Prop, (∀ γ2 μ2, J (ys ++ [x]) γ2 μ2 → U γ2 μ2) → wg (f x) γ' μ' Ξ fun γ2 μ2 => wb ⟨U, rt, nx, U⟩ γ2 μ2 Ξ)
    (he : ∀ γ' μ', J xs γ' μ' → nx γ' μ') : ForT (xs.map f) G wg wb γ μ Ξ nx rt := by
  refine ⟨fun i γ' μ' => J (xs.take i) γ' μ', by simpa using h0, fun i γ' μ' h => hG _ _ _ h, ?_, ?_⟩
  · rintro i d γ' μ' hd hJ
    rw [List.getElem?_map] at hd
    cases hx : xs[i]? with
    | none => rw [hx] at hd; cases hd
    | some x =>
      rw [hx] at hd
      cases hd
      have e1 : xs.take (i + 1) = xs.take i ++ [x] := by rw [List.take_succ, hx]; rfl
      have e2 : xs = xs.take i ++ x :: xs.drop (i + 1) := by
        have := (List.getElem?_eq_some_iff.mp hx)
        obtain ⟨hl, rfl⟩ := this
        rw [← List.drop_eq_getElem_cons, List.take_append_drop]
      exact hs _ x _ e2 γ' μ' hJ _ fun γ2 μ2 h => by show J (xs.take (i + 1)) γ2 μ2; rw [e1]; exact h
  · intro γ' μ' h
    rw [List.length_map, List.take_of_length_le (Nat.le_refl _)] at h
    exact he γ' μ' h
/-- a for that leaves the store as it is -/
theorem for_pure {xs : List α} (f : α → D) (P : Ga → Prop) (h0 : P γ) (hG : G μ)
    (hs : ∀ x, x ∈ xs → ∀ γ', P γ' → ∀ U : Ga → Mu → Prop, (∀ γ2, P γ2 → U γ2 μ) → wg (f x) γ' μ Ξ fun γ2 μ2 => wb ⟨U, rt, nx, U⟩ γ2 μ2 Ξ)
    (he : ∀ γ', P γ' → nx γ' μ) : ForT (xs.map f) G wg wb γ μ Ξ nx rt := by
  refine for_pre f (fun _ γ' μ' => P γ' ∧ μ' = μ) ⟨h0, rfl⟩ (fun _ _ _ ⟨_, e⟩ => e ▸ hG) ?_ fun γ' μ' ⟨h, e⟩ => e ▸ he γ' h
  rintro ys x zs e γ' _ ⟨hP, rfl⟩ U hU
  exact hs x (by rw [e]; simp) γ' hP U fun γ2 h => hU γ2 _ ⟨h, rfl⟩
/-- stores of pairwise other objects -/
theorem oAdd_kt {xs ys : List D} (hx : xs ≠ []) (hy : ys ≠ []) (hz : xs.length + ys.length ≤ sizeLine) (h : Φ (.tup (xs ++ ys)) μ) : oAdd (.ktup xs) (.tup ys) μ Φ := ⟨hx, hy, hz, h⟩
theorem oAdd_tup {xs ys : List D} (hz : xs.length + ys.length ≤ sizeLine) (h : Φ (.tup (xs ++ ys)) μ) : oAdd (.tup xs) (.tup ys) μ Φ := ⟨hz, h⟩
end
/-! ### tables by a list -/
section
variable {κ : Type} [DecidableEq κ] {α : Type}
theorem valD_app {es fs : List (κ × D)} {k : κ} : valD (es ++ fs) k = (valD es k).or (valD fs k) := by
  induction es with
  | nil => simp [valD_nil]
  | cons p r ih =>
    by_cases e : p.1 = k
    · rw [List.cons_append, valD_pos e, valD_pos e]; rfl
    · rw [List.cons_append, valD_neg e, valD_neg e]; exact ih
theorem valD_no {es : List (κ × D)} {k : κ} (h : ∀ e ∈ es, e.1 ≠ k) : valD es k = none := by
  induction es with
  | nil => rfl
  | cons p r ih => rw [valD_neg (h p (by simp))]; exact ih fun e he => h e (by simp [he])
theorem valD_map {xs : List α} (g : α → κ) (f : α → D) {x : α} (hx : x ∈ xs) (inj : ∀ y ∈ xs, g y = g x → f y = f x) : valD (xs.map fun x => (g x, f x)) (g x) = some (f x) := by
  induction xs with
  | nil => cases hx
  | cons y r ih =>
    rw [List.map_cons]
    by_cases e : g y = g x
    · rw [valD_pos (p := (g y, f y)) e, inj y (by simp) e]
    · rw [valD_neg (p := (g y, f y)) e]
      rcases List.mem_cons.mp hx with rfl | hx
      · exact absurd rfl e
      · exact ih hx fun z hz => inj z (by simp [hz])
theorem valD_mem {es : List (κ × D)} {k : κ} {d : D} (h : valD es k = some d) : (k, d) ∈ es := by
  induction es with
  | nil => cases h
  | cons p r ih =>
    by_cases e : p.1 = k
    · rw [valD_pos e] at h; cases h; subst e; exact List.mem_cons_self ..
    · rw [valD_neg e] at h; exact List.mem_cons_of_mem _ (ih h)
theorem valD_put {es : List (κ × D)} {k l : κ} {d : D} : valD (putKD es k d) l = if l = k then some d else valD es l := by
  unfold putKD
  split
  · rename_i q
    rw [anyD] at q
    induction es with
    | nil => cases q
    | cons p r ih =>
      rw [List.map_cons]
      by_cases e : p.1 = k
      · rw [if_pos e]
        by_cases e2 : l = k
        · rw [valD_pos (p := (p.1, d)) (by rw [e, e2]), if_pos e2]
        · rw [if_neg e2, valD_neg (p := (p.1, d)) (fun z => e2 (z.symm.trans e)), valD_neg (p := p) (fun z => e2 (z.symm.trans e))]
          clear ih q
          induction r with
          | nil => rfl
          | cons u r ih =>
            rw [List.map_cons]
            by_cases e3 : u.1 = k
            · rw [if_pos e3, valD_neg (p := (u.1, d)) (fun z => e2 (z.symm.trans e3)), valD_neg (p := u) (fun z => e2 (z.symm.trans e3)), ih]
            · rw [if_neg e3]
              by_cases e4 : u.1 = l
              · rw [valD_pos e4, valD_pos e4]
              · rw [valD_neg e4, valD_neg e4, ih]
      · rw [if_neg e]
        rw [valD_neg e] at q
        by_cases e2 : p.1 = l
        · rw [valD_pos e2, valD_pos e2, if_neg (fun z => e (e2.trans z))]
        · rw [valD_neg e2, valD_neg e2]; exact ih q
  · rename_i q
    rw [anyD] at q
    have hn : valD es k = none := by cases h : valD es k with
      | none => rfl
      | some _ => rw [h] at q; exact absurd rfl q
    rw [valD_app]
    by_cases e : l = k
    · subst e; rw [hn, if_pos rfl]; exact valD_pos (p := (l, d)) rfl
    · rw [if_neg e, valD_neg (p := (k, d)) (Ne.symm e), valD_nil]; simp
theorem putKD_len {es : List (κ × D)} {k : κ} {d : D} : (putKD es k d).length ≤ es.length + 1 := by
  unfold putKD; split <;> simp
end
section
variable {μ : Mu} {Φ : KD} {x y z : D}
theorem oNotInD_some (h : dGetD μ x y = some (some z)) (q : Φ (.bl false) μ) : oInDct true y x μ Φ := ⟨_, h, q⟩
theorem oNotInD_none (h : dGetD μ x y = some none) (q : Φ (.bl true) μ) : oInDct true y x μ Φ := ⟨_, h, q⟩
theorem oInD_some (h : dGetD μ x y = some (some z)) (q : Φ (.bl true) μ) : oInDct false y x μ Φ := ⟨_, h, q⟩
theorem oInD_none (h : dGetD μ x y = some none) (q : Φ (.bl false) μ) : oInDct false y x μ Φ := ⟨_, h, q⟩
end
theorem putD_lt {f : Str} {d : D} {fs : List (Str × D)} {n : Nat} (h : fs.length < n) : (putD f d fs).length < n + 1 := Nat.lt_succ_of_le (Nat.le_trans (putD_len fs) h)
theorem insD_new {μ : Mu} {q : Addr} {m : MO} {d : D} {o : Addr × List (Str × D)} (hq : μ q = none) (h : insD μ d = some o) : insD (updM μ q m) d = some o := by
  cases d with
  | adr x =>
    have : x ≠ q := fun e => by subst e; simp [insD, insM, hq] at h
    simp only [insD, updM_ne this] at h ⊢; exact h
  | _ => exact h
theorem dTD_new {μ : Mu} {q : Addr} {m : MO} {d : D} {o : List (List Key × D)} (hq : μ q = none) (h : dTD μ d = some o) : dTD (updM μ q m) d = some o := by
  cases d with
  | adr x =>
    have : x ≠ q := fun e => by subst e; simp [dTD, dTM, hq] at h
    simp only [dTD, updM_ne this] at h ⊢; exact h
  | _ => exact h
theorem dKD_new {μ : Mu} {q : Addr} {m : MO} {d : D} {o : List (Key × D)} (hq : μ q = none) (h : dKD μ d = some o) : dKD (updM μ q m) d = some o := by
  cases d with
  | adr x =>
    have : x ≠ q := fun e => by subst e; simp [dKD, dKM, hq] at h
    simp only [dKD, updM_ne this] at h ⊢; exact h
  | _ => exact h
theorem grd_any {d : D} {xs : List D} {μ : Mu} (h : ∀ μ', itemsD μ' d = some xs) : grdD d xs μ := by
  cases d with
  | adr x => have := h (fun _ => none); cases this
  | _ => exact True.intro
theorem delMs_one {μ : Mu} {t : Addr} {T : MO} {d : D} (h : μ t = none) : delMs (updM μ t T) [(t, d)] = μ := by
  funext b
  unfold delMs updM
  by_cases e : b = t
  · subst e; rw [if_pos (by simp), h]
  · rw [if_neg (by simp [e]), if_neg e]
/-- one object of the store is read by its value in another -/
theorem Gh.one {γ : Ga} {μ : Mu} {k : Ga → Mu → Prop} {t b : Addr} {T : MO} {d : D} {m m' : MO} (ht : μ t = none) (hf : frzM (some T) = some d) (hb : μ b = some m) (hs : SubM [(t, d)] m m') (q : k γ (updM μ b m')) : Gh γ (updM μ t T) k := by
  refine .frz [(t, d)] γ (updM μ b m') (by simp) (by simp [updM_same, hf]) SubG.refl ?_ (.done q)
  rw [delMs_one ht]
  exact SubMu.upd hb hs
end DL

/-! # DL20: many objects of the store at once -/
namespace DL
open PySem L2
/-- the store with more objects -/
def ovr (μ : Mu) (l : List (Addr × MO)) : Mu := fun b => (l.lookup b).or (μ b)
theorem ovr_nil {μ : Mu} : ovr μ [] = μ := by funext b; rfl
theorem lookup_none {l : List (Addr × MO)} {b : Addr} (h : b ∉ l.map (·.1)) : l.lookup b = none := by
  induction l with
  | nil => rfl
  | cons p r ih =>
    have h1 : b ≠ p.1 := fun e => h (by simp [e])
    rw [List.lookup_cons]
    have : (b == p.1) = false := by simpa using h1
    rw [this]
    exact ih fun z => h (List.mem_cons_of_mem _ z)
theorem lookup_get {l : List (Addr × MO)} {i : Nat} {p : Addr × MO} (nd : (l.map (·.1)).Nodup) (h : l[i]? = some p) : l.lookup p.1 = some p.2 := by
  induction l generalizing i with
  | nil => cases h
  | cons q r ih =>
    rw [List.map_cons, List.nodup_cons] at nd
    cases i with
    | zero => cases h; rw [List.lookup_cons]; have : (p.1 == p.1) = true := by simp
              rw [this]
    | succ i =>
      have hm : p ∈ r := List.mem_of_getElem? h
      have : p.1 ≠ q.1 := fun e => nd.1 (List.mem_map.mpr ⟨p, hm, e⟩)
      rw [List.lookup_cons]
      have : (p.1 == q.1) = false := by simpa using this
      rw [this]
      exact ih nd.2 h
theorem ovr_ne {μ : Mu} {l : List (Addr × MO)} {b : Addr} (h : b ∉ l.map (·.1)) : ovr μ l b = μ b := by unfold ovr; rw [lookup_none h]; rfl
theorem ovr_get {μ : Mu} {l : List (Addr × MO)} {i : Nat} {p : Addr × MO} (nd : (l.map (·.1)).Nodup) (h : l[i]? = some p) : ovr μ l p.1 = some p.2 := by unfold ovr; rw [lookup_get nd h]; rfl
theorem ovr_none {μ : Mu} {l : List (Addr × MO)} {b : Addr} (h : ovr μ l b = none) : b ∉ l.map (·.1) ∧ μ b = none := by
  have : b ∉ l.map (·.1) := fun z => by
    obtain ⟨p, hp, rfl⟩ := List.mem_map.mp z
    unfold ovr at h
    have hs : (l.lookup p.1).isSome = true := by
      clear h z
      induction l with
      | nil => cases hp
      | cons q r ih =>
        rw [List.lookup_cons]
        cases e : (p.1 == q.1) with
        | true => rfl
        | false =>
          rcases List.mem_cons.mp hp with rfl | hp
          · simp at e
          · exact ih hp
    cases e : l.lookup p.1 with
    | none => rw [e] at hs; cases hs
    | some m => rw [e] at h; cases h
  exact ⟨this, by rwa [ovr_ne this] at h⟩
theorem ovr_snoc {μ : Mu} {l : List (Addr × MO)} {p : Addr} {m : MO} (h : p ∉ l.map (·.1)) : updM (ovr μ l) p m = ovr μ (l ++ [(p, m)]) := by
  funext b
  unfold updM ovr
  rw [List.lookup_append]
  by_cases e : b = p
  · subst e; rw [if_pos rfl, lookup_none h]; simp
  · rw [if_neg e]
    have : List.lookup b [(p, m)] = none := by rw [List.lookup_cons]; have : (b == p) = false := by simpa using e
                                               rw [this]; rfl
    rw [this]; simp
theorem ovr_in {μ : Mu} {l : List (Addr × MO)} {p : Addr} {m : MO} (h : p ∉ l.map (·.1)) : updM (ovr μ l) p m = ovr (updM μ p m) l := by
  funext b
  unfold updM ovr
  by_cases e : b = p
  · subst e; rw [if_pos rfl, lookup_none h]; simp
  · rw [if_neg e]; simp [e]
theorem lookup_set {l : List (Addr × MO)} {i : Nat} {p : Addr × MO} {m : MO} (nd : (l.map (·.1)).Nodup) (h : l[i]? = some p) (b : Addr) : (l.set i (p.1, m)).lookup b = if b = p.1 then some m else l.lookup b := by
  induction l generalizing i with
  | nil => cases h
  | cons q r ih =>
    rw [List.map_cons, List.nodup_cons] at nd
    cases i with
    | zero =>
      cases h
      rw [List.set_cons_zero, List.lookup_cons, List.lookup_cons]
      by_cases e : b = p.1
      · subst e; simp
      · have : (b == p.1) = false := by simpa using e
        rw [this, if_neg e]
    | succ i =>
      rw [List.set_cons_succ, List.lookup_cons, List.lookup_cons, ih nd.2 h]
      by_cases e : b = p.1
      · have hm : p ∈ r := List.mem_of_getElem? h
        have : b ≠ q.1 := fun e2 => nd.1 (List.mem_map.mpr ⟨p, hm, e.symm.trans e2⟩)
        have : (b == q.1) = false := by simpa using this
        rw [this, if_pos e]
      · rw [if_neg e, if_neg e]
theorem ovr_set {μ : Mu} {l : List (Addr × MO)} {i : Nat} {p : Addr × MO} {m : MO} (nd : (l.map (·.1)).Nodup) (h : l[i]? = some p) : updM (ovr μ l) p.1 m = ovr μ (l.set i (p.1, m)) := by
  funext b
  unfold updM ovr
  rw [lookup_set nd h]
  by_cases e : b = p.1
  · rw [if_pos e, if_pos e]; rfl
  · rw [if_neg e, if_neg e]
theorem ovr_del {μ : Mu} {l : List (Addr × MO)} {r : List (Addr × D)} (hr : r.map (·.1) = l.map (·.1)) (h : ∀ a ∈ l.map (·.1), μ a = none) : delMs (ovr μ l) r = μ := by
  funext b
  unfold delMs
  rw [hr]
  by_cases e : b ∈ l.map (·.1)
  · rw [if_pos e, h b e]
  · rw [if_neg e, ovr_ne e]
theorem updM_del {μ : Mu} {a : Addr} {m : MO} {r : List (Addr × D)} (h : a ∉ r.map (·.1)) : delMs (updM μ a m) r = updM (delMs μ r) a m := by
  funext b
  unfold delMs updM
  by_cases e : b = a
  · subst e; rw [if_neg h, if_pos rfl, if_pos rfl]
  · rw [if_neg e, if_neg e]
/-- lists of the store, each read by its value in a place -/
theorem Gh.many {γ γ' : Ga} {μ μ' : Mu} {k : Ga → Mu → Prop} {α : Type} {xs : List α} (ad : α → Addr) (ys : α → List D) (nd : (xs.map ad).Nodup) (h0 : ∀ x ∈ xs, μ (ad x) = none)
    (hg : SubG (xs.map fun x => (ad x, D.lst (ys x))) γ γ') (hm : SubMu (xs.map fun x => (ad x, D.lst (ys x))) μ μ') (q : k γ' μ') : Gh γ (ovr μ (xs.map fun x => (ad x, .lst (ys x)))) k := by
  have nd2 : ((xs.map fun x => (ad x, MO.lst (ys x))).map (·.1)).Nodup := by rw [List.map_map]; exact nd
  have nd3 : ((xs.map fun x => (ad x, D.lst (ys x))).map (·.1)).Nodup := by rw [List.map_map]; exact nd
  refine .frz _ γ' μ' nd3 ?_ hg ?_ (.done q)
  · intro p hp
    obtain ⟨x, hx, rfl⟩ := List.mem_map.mp hp
    obtain ⟨i, hi⟩ := List.mem_iff_getElem?.mp hx
    have := ovr_get (μ := μ) (l := xs.map fun x => (ad x, MO.lst (ys x))) (i := i) (p := (ad x, .lst (ys x))) nd2 (by rw [List.getElem?_map, hi]; rfl)
    show frzM (ovr μ _ (ad x)) = _
    rw [this]; rfl
  · rw [ovr_del (by rw [List.map_map, List.map_map]; rfl) (fun a ha => by rw [List.map_map] at ha; obtain ⟨x, hx, rfl⟩ := List.mem_map.mp ha; exact h0 x hx)]
    exact hm
/-- a comprehension by the part that is done -/
theorem lc_pre {α : Type} {γ : Ga} {μ : Mu} {wg : TDC} {wt : TDT} {we : TD} {vs : List Nat} {G : Mu → Prop} {Λ' : List D → Mu → Prop} {xs : List α} (f : α → D) (J : List α → List D → Mu → Prop) (h0 : J [] [] μ) (hG : ∀ ys acc μ', J ys acc μ' → G μ')
    (hs : ∀ ys x zs, xs = ys ++ x :: zs → ∀ acc μ', J ys acc μ' → ∀ U : Option D → Mu → Prop, (∀ e μ2, acc.length < sizeLine → J (ys ++ [x]) (acc ++ [e]) μ2 → U (some e) μ2) → (∀ μ2, J (ys ++ [x]) acc μ2 → U none μ2) →
      wg (f x) (wipeG γ vs) fun γ2 => wt γ2 μ' X0 fun b μ3 => if b = true then we γ2 μ3 X0 fun e => U (some e) else U none μ3)
    (he : ∀ acc μ', J xs acc μ' → Λ' acc μ') : dLcT wg wt we vs γ (xs.map f) G μ Λ' := by
  refine ⟨fun i acc μ' => J (xs.take i) acc μ', by simpa using h0, fun i acc μ' h => hG _ _ _ h, ?_, ?_⟩
  · rintro i d acc μ' hd hJ
    rw [List.getElem?_map] at hd
    cases hx : xs[i]? with
    | none => rw [hx] at hd; cases hd
    | some x =>
      rw [hx] at hd
      cases hd
      have e1 : xs.take (i + 1) = xs.take i ++ [x] := by rw [List.take_succ, hx]; rfl
      have e2 : xs = xs.take i ++ x :: xs.drop (i + 1) := by
        have := (List.getElem?_eq_some_iff.mp hx)
        obtain ⟨hl, rfl⟩ := this
        rw [← List.drop_eq_getElem_cons, List.take_append_drop]
      have hq := hs _ x _ e2 acc μ' hJ (fun o μ4 => match o with
        | some e => acc.length < sizeLine ∧ J (xs.take (i + 1)) (acc ++ [e]) μ4
        | none => J (xs.take (i + 1)) acc μ4) (fun e μ2 hz h => ⟨hz, by rw [e1]; exact h⟩) (fun μ2 h => by show J _ _ _; rw [e1]; exact h)
      exact hq
  · intro acc μ' h
    rw [List.length_map, List.take_of_length_le (Nat.le_refl _)] at h
    exact he acc μ' h
theorem flat_set {α β : Type} {f : α → List β} : ∀ {xs : List α} {i : Nat} {x y : α} {z : β}, xs[i]? = some x → f y = f x ++ [z] → ((xs.set i y).flatMap f).Perm (xs.flatMap f ++ [z])
  | [], _, _, _, _, h, _ => by cases h
  | w :: xs, 0, x, y, z, h, e => by
    cases h
    rw [List.set_cons_zero, List.flatMap_cons, List.flatMap_cons, e, List.append_assoc, List.append_assoc]
    exact List.Perm.append_left _ (List.perm_append_comm)
  | w :: xs, i + 1, x, y, z, h, e => by
    rw [List.set_cons_succ, List.flatMap_cons, List.flatMap_cons, List.append_assoc]
    exact List.Perm.append_left _ (flat_set (xs := xs) (i := i) h e)
theorem SubL.snoc {l : List (Addr × D)} {xs ys : List D} {x y : D} (h : SubL l xs ys) (t : SubD l x y) : SubL l (xs ++ [x]) (ys ++ [y]) := by
  refine ⟨by simp [h.1], fun i a b h1 h2 => ?_⟩
  by_cases q : i < xs.length
  · rw [List.getElem?_append_left q] at h1
    rw [List.getElem?_append_left (by rw [h.1]; exact q)] at h2
    exact h.2 i a b h1 h2
  · rw [List.getElem?_append_right (by omega)] at h1
    rw [List.getElem?_append_right (by rw [h.1]; omega)] at h2
    rw [h.1] at h2
    cases e : i - xs.length with
    | zero => rw [e] at h1 h2; cases h1; cases h2; exact t
    | succ j => rw [e] at h1; cases h1
theorem dget_adr {μ : Mu} {e : Addr} {es : List (Key × D)} {k : Str} {d : D} (h : μ e = some (.dK es)) (hv : valD es (.inr k) = some d) : dGetD μ (.adr e) (.str k) = some (some d) := by
  show (dKM (μ e)).map (fun es => valD es (.inr k)) = _
  rw [h]; exact congrArg some hv
theorem cut_take {xs : List D} {k : Int} (h : 0 ≤ k) : cutD xs none (some k) = xs.take k.toNat := by
  obtain ⟨n, rfl⟩ := Int.eq_ofNat_of_zero_le h
  unfold cutD
  rw [HT.sIx_none, HT.sIx_nat, List.drop_zero, Nat.sub_zero, Int.toNat_natCast]
  by_cases q : n ≤ xs.length
  · rw [Nat.min_eq_left q]
  · rw [Nat.min_eq_right (by omega), List.take_of_length_le (Nat.le_refl _), List.take_of_length_le (by omega)]
theorem cut_drop {xs : List D} {k : Int} (h : 0 ≤ k) : cutD xs (some k) none = xs.drop k.toNat := by
  obtain ⟨n, rfl⟩ := Int.eq_ofNat_of_zero_le h
  unfold cutD
  rw [HT.sIx_none, HT.sIx_nat, Int.toNat_natCast]
  by_cases q : n ≤ xs.length
  · rw [Nat.min_eq_left q, List.take_of_length_le (Nat.le_of_eq List.length_drop)]
  · rw [Nat.min_eq_right (by omega), List.drop_eq_nil_of_le (Nat.le_refl _), List.drop_eq_nil_of_le (by omega), List.take_nil]
theorem nd_inj' {α : Type} {xs : List α} (nd : xs.Nodup) {i j : Nat} (hi : i < xs.length) (hj : j < xs.length) (e : xs[i] = xs[j]) : i = j := by
  have h := List.pairwise_iff_getElem.mp nd
  rcases Nat.lt_trichotomy i j with z | z | z
  · exact absurd e (h i j hi hj z)
  · exact z
  · exact absurd e.symm (h j i hj hi z)
theorem nodup_set {α : Type} : ∀ {l : List α} {i : Nat} {p : α}, l.Nodup → p ∉ l → (l.set i p).Nodup
  | [], _, _, _, _ => by simp
  | x :: l, 0, p, nd, h => by
    rw [List.set_cons_zero, List.nodup_cons]
    exact ⟨fun z => h (List.mem_cons_of_mem _ z), (List.nodup_cons.mp nd).2⟩
  | x :: l, i + 1, p, nd, h => by
    rw [List.set_cons_succ, List.nodup_cons]
    have nd := List.nodup_cons.mp nd
    refine ⟨fun z => ?_, nodup_set nd.2 fun z => h (List.mem_cons_of_mem _ z)⟩
    rcases List.mem_or_eq_of_mem_set z with z | z
    · exact nd.1 z
    · exact h (by rw [z]; exact List.mem_cons_self ..)
theorem nd_le2 {α : Type} [DecidableEq α] : ∀ {xs ys : List α}, xs.Nodup → (∀ z ∈ xs, z ∈ ys) → xs.length ≤ ys.length
  | [], ys, _, _ => Nat.zero_le _
  | x :: xs, ys, nd, h => by
    have nd2 := List.nodup_cons.mp nd
    have hx := h x List.mem_cons_self
    have := nd_le2 (xs := xs) (ys := ys.erase x) nd2.2 fun z hz => by
      refine (List.mem_erase_of_ne (fun e => ?_)).mpr (h z (List.mem_cons_of_mem _ hz))
      subst e; exact nd2.1 hz
    rw [List.length_erase_of_mem hx] at this
    have : 0 < ys.length := List.length_pos_of_mem hx
    rw [List.length_cons]; omega
theorem Gh.one' {γ : Ga} {μ : Mu} {k : Ga → Mu → Prop} {t b : Addr} {T : MO} {d : D} {m m' : MO} (ht : μ t = none) (hf : frzM (some T) = some d) (hb : μ b = some m) (hs : SubM [(t, d)] m m') (q : Gh γ (updM μ b m') k) : Gh γ (updM μ t T) k := by
  refine .frz [(t, d)] γ (updM μ b m') (by simp) (by simp [updM_same, hf]) SubG.refl ?_ q
  rw [delMs_one ht]
  exact SubMu.upd hb hs
/-! ### lists of tuples of texts -/
theorem toPs_tups (μ : Mu) : ∀ as : List (List Str), toPs μ (as.map fun a => D.tup (a.map D.str)) = some (as.map fun a => PyData.tuple (a.map PyData.str))
  | [] => rfl
  | a :: as => by rw [List.map_cons, toPs, toPs_tups μ as, toP, toPs_strs]; rfl
theorem lay_tups : ∀ as : List (List Str), (∀ a ∈ as, ∀ x ∈ a, PyData.strOk x = true) → PyData.canLayAll0 (as.map fun a => PyData.tuple (a.map PyData.str)) = true
  | [], _ => by simp [PyData.canLayAll0]
  | a :: as, h => by
    have h1 := lay_strs a (h a List.mem_cons_self)
    have h2 := lay_tups as fun b hb => h b (List.mem_cons_of_mem _ hb)
    simp only [List.map_cons, PyData.canLayAll0, PyData.canLay0, h1, h2, Bool.and_self]
theorem depth_tups : ∀ as : List (List Str), PyData.depthAll (as.map fun a => PyData.tuple (a.map PyData.str)) ≤ 1
  | [] => by simp [PyData.depthAll]
  | a :: as => by
    have := depth_tups as
    simp only [List.map_cons, PyData.depthAll, PyData.depth, depth_strs]
    omega
theorem eqvAll_one : ∀ xs : List Str, PyData.eqvAll (xs.map PyData.str) (xs.map PyData.str) = true := fun xs => by rw [eqvAll_strs]; exact decide_eq_true rfl
theorem eqvAll_tups : ∀ as : List (List Str), PyData.eqvAll (as.map fun a => PyData.tuple (a.map PyData.str)) (as.map fun a => PyData.tuple (a.map PyData.str)) = true
  | [] => by simp [PyData.eqvAll]
  | a :: as => by simp only [List.map_cons, PyData.eqvAll, PyData.eqv, eqvAll_one, eqvAll_tups as, Bool.and_self]
theorem oEq_tups {μ : Mu} {Φ : KD} {as : List (List Str)} (h1 : ∀ a ∈ as, ∀ x ∈ a, PyData.strOk x = true) (h : Φ (.bl true) μ) : oEq false (.lst (as.map fun a => D.tup (a.map D.str))) (.lst (as.map fun a => D.tup (a.map D.str))) μ Φ := by
  have e1 : toPM μ (.lst (as.map fun a => D.tup (a.map D.str))) = some (.list (as.map fun a => PyData.tuple (a.map PyData.str))) := by
    show toP μ (.lst _) = _
    rw [toP, toPs_tups]; rfl
  have sh : SeqAt.shaped (.list (as.map fun a => PyData.tuple (a.map PyData.str))) = true := by
    unfold SeqAt.shaped
    have := depth_tups as
    rw [PyData.canLay0, lay_tups as h1, PyData.depth]
    simp only [Bool.true_and]
    exact decide_eq_true (by omega)
  refine ⟨_, _, e1, e1, sh, sh, ?_⟩
  rw [PyData.eqv, eqvAll_tups]; exact h
theorem oEq_non {μ : Mu} {Φ : KD} (h : Φ (.bl true) μ) : oEq false .non .non μ Φ := by
  refine ⟨.none, .none, rfl, rfl, by decide +kernel, by decide +kernel, ?_⟩
  have : PyData.eqv .none .none = true := by simp [PyData.eqv]
  rw [this]; exact h
theorem grd_items {d : D} {xs : List D} {μ : Mu} (h : itemsD μ d = some xs) : grdD d xs μ := by
  cases d with
  | adr a => exact lisM_inv h
  | _ => exact True.intro
theorem delM_ne {μ : Mu} {a b : Addr} (h : b ≠ a) : delM μ a b = μ b := by unfold delM; rw [if_neg h]
theorem delMs_del {μ : Mu} {a : Addr} {d : D} : delMs μ [(a, d)] = delM μ a := by
  funext b
  unfold delMs delM
  by_cases e : b = a
  · rw [if_pos e, if_pos (by simp [e])]
  · rw [if_neg e, if_neg (by simp [e])]
/-- a list of the store that stands in a local changes no more -/
theorem Gh.slot {γ : Ga} {μ : Mu} {k : Ga → Mu → Prop} {a : Addr} {xs : List D} (i : Nat) (hi : γ[i]? = some (some (.adr a))) (ha : μ a = some (.lst xs)) (q : k (γ.set i (some (.lst xs))) (delM μ a)) : Gh γ μ k := by
  refine .frz [(a, D.lst xs)] (γ.set i (some (.lst xs))) (delMs μ [(a, D.lst xs)]) (by simp) (by simp [ha, frzM]) (SubG.set hi (SubD.here (by simp))) SubMu.refl (.done ?_)
  rw [delMs_del]; exact q
theorem dSeq_as {t u v : TDS} {DD : DEnds} {γ : Ga} {μ : Mu} {Ξ : XD} (h : dSeq (dSeq t u) v DD γ μ Ξ) : dSeq t (dSeq u v) DD γ μ Ξ := h
theorem oIsNot_non {μ : Mu} {Φ : KD} (h : Φ (.bl false) μ) : oIs true .non .non μ Φ := ⟨rfl, h⟩
theorem oIsNot_lst {μ : Mu} {Φ : KD} {xs : List D} (h : Φ (.bl true) μ) : oIs true (.lst xs) .non μ Φ := ⟨rfl, h⟩
end DL

open PySem L2 DL in
local macro_rules | `(tactic| walk_at "d1") => `(tactic| first
  | with_reducible refine dSeq_i ?_ | with_reducible refine dAsg_i ?_ | with_reducible refine gNm_i ?_ | ((with_reducible refine dVar_x ?_); refine ⟨_, rfl, ?_⟩) | with_reducible refine dC_i ?_
  | with_reducible refine dOp_i ?_ | with_reducible refine dTest_i ?_ | with_reducible refine blEx_i ?_ | with_reducible refine blEx2_i ?_ | with_reducible refine intEx_i ?_ | with_reducible refine dIf_i ?_ | with_reducible refine dRet_i ?_ | with_reducible refine dRetN_i ?_ | with_reducible refine dDrop_i ?_ | with_reducible refine dNext_i ?_ | with_reducible refine dBreak_i ?_ | with_reducible refine dCont_i ?_ | with_reducible refine dRaise_i ?_
  | with_reducible refine dAnd_i ?_ | with_reducible refine dOr_i ?_ | with_reducible refine dNot_i ?_ | with_reducible refine dTru_i ?_ | with_reducible refine truBl_i ?_ | with_reducible refine truLst_i ?_ | with_reducible refine dAndV_i ?_ | with_reducible refine dOrV_i ?_ | with_reducible refine dNotV_i ?_ | with_reducible refine dIfE_i ?_
  | with_reducible refine dNil_i ?_ | with_reducible refine dCons_i ?_ | with_reducible refine dCall_i ?_ | with_reducible refine dBi_i ?_ | with_reducible refine dTup_i ?_ | with_reducible refine dLst_i ?_ | with_reducible refine dLstM_i ?_ | with_reducible refine dFld_i ?_ | with_reducible refine dSFld_i ?_ | with_reducible refine dMeth_i ?_ | with_reducible refine dBm_i ?_
  | with_reducible refine dSl_i ?_ | with_reducible refine dNoPart_i ?_ | with_reducible refine dPart_i ?_ | with_reducible refine dStar_i ?_ | with_reducible refine itEx_lst ?_ | with_reducible refine itEx_tup ?_ | with_reducible refine itEx_ktup ?_ | with_reducible refine itEx_fro ?_ | with_reducible refine liEx_lst ?_ | with_reducible refine dIt_i ?_ | with_reducible refine dLc_i ?_ | with_reducible refine dLcM_i ?_ | with_reducible refine dFor_i ?_ | with_reducible refine dYes_i ?_ | with_reducible refine cNm_i ?_ | with_reducible refine dRng1_i ?_ | ((with_reducible refine dAug_x ?_); refine ⟨_, rfl, ?_⟩)
  | with_reducible refine oAdd_int ?_ | with_reducible refine oSub_int ?_ | with_reducible refine oLt_int ?_ | with_reducible refine oLe_int ?_ | with_reducible refine oGt_int ?_ | with_reducible refine oGe_int ?_ | with_reducible refine oEq_int ?_ | with_reducible refine oNe_int ?_ | with_reducible refine oEq_str ?_ | with_reducible refine oNe_str ?_ | with_reducible refine oEq_bl ?_ | with_reducible refine oNe_bl ?_
  | ((with_reducible refine oMod_int ?dvh ?_); (case dvh => first | decide | omega | assumption)) | ((with_reducible refine oMul_int ?dvh ?_); (case dvh => first | (first | exact .inl ⟨by omega, by omega⟩ | exact .inr ⟨by omega, by omega⟩))) | ((with_reducible refine oDiv_int ?dvh ?_); (case dvh => exact ⟨by omega, by omega⟩)) | ((with_reducible refine oPow_int ?dvh ?_); (case dvh => exact ⟨by decide, by decide, by decide⟩))
  | with_reducible refine bLen_lst ?_ | with_reducible refine bLen_tup ?_ | with_reducible refine bLen_ktup ?_ | with_reducible refine bLen_fro ?_ | with_reducible refine bInt_int ?_ | with_reducible refine bInt_bl ?_ | with_reducible refine bStr_str ?_ | with_reducible refine bAll_bls ?_ | with_reducible refine bAny_bls ?_
  | with_reducible refine iteNT ?_ | with_reducible refine iteNF ?_ | with_reducible refine gIx_i ?_ | with_reducible refine dFrz_i ?_ | with_reducible refine dFgt_i ?_ | with_reducible refine dDisp_i ?_ | with_reducible refine dPairs_c ?_ | with_reducible refine dPairs_n ?_ | with_reducible refine gDx_i ?_ | with_reducible refine dItD_i ?_ | with_reducible refine dItS_i ?_ | with_reducible refine dLc2_i ?_ | with_reducible refine dChainV_i ?_ | with_reducible refine dGet2_i ?_ | with_reducible refine dOwnIx_i ?_ | with_reducible refine gOwn_i ?_ | with_reducible refine dBmF_i ?_ | with_reducible refine dSlTT_i ?_ | with_reducible refine dTry_i ?_ | with_reducible refine dNewK_i ?_ | with_reducible refine dNewT_i ?_ | with_reducible refine dGh_i ?_ | with_reducible refine gTp_tup rfl ?_ | with_reducible refine gCn_i ?_ | with_reducible refine gNl_i ?_
  | with_reducible refine iteT ?_ | with_reducible refine iteF ?_)
local macro_rules | `(tactic| walk_at "d") => `(tactic| repeat walk_at "d1")

namespace Law
open PySem L2 DL
def topS (i : Nat) : Stmt := PySem.Challenge.pw_redomarks_k56_keys_and_sets.main.body.getD i (.Pass ⟨0, 0, 0, 0⟩)
abbrev s_wall : Stmt := topS 0
abbrev s_is_name : Stmt := topS 9
abbrev s_are_distinct : Stmt := topS 10
abbrev s_are_names : Stmt := topS 11
abbrev s_split_source : Stmt := topS 12
abbrev s_Engine_d_init : Stmt := inClass (topS 13) 0
abbrev s_Engine_checked : Stmt := inClass (topS 13) 1
abbrev s_Engine_d_iter : Stmt := inClass (topS 13) 2
abbrev s_Engine_d_getitem : Stmt := inClass (topS 13) 3
abbrev s_Engine_turn : Stmt := inClass (topS 13) 4
abbrev s_Engine_in_time : Stmt := inClass (topS 13) 5
abbrev s_Engine_late : Stmt := inClass (topS 13) 6
abbrev s_Engine_all_sources : Stmt := inClass (topS 13) 7
abbrev s_Engine_reordered : Stmt := inClass (topS 13) 8
abbrev s_Engine_orders : Stmt := inClass (topS 13) 9
abbrev s_Marks_d_init : Stmt := inClass (topS 17) 0
abbrev s_Marks_d_eq : Stmt := inClass (topS 17) 1
abbrev s_Marks_d_len : Stmt := inClass (topS 17) 2
abbrev s_Marks_d_iter : Stmt := inClass (topS 17) 3
abbrev s_Marks_d_contains : Stmt := inClass (topS 17) 4
abbrev s_Marks_d_or : Stmt := inClass (topS 17) 5
abbrev s_Marks_d_and : Stmt := inClass (topS 17) 6
abbrev s_Marks_d_sub : Stmt := inClass (topS 17) 7
abbrev s_Marks_d_le : Stmt := inClass (topS 17) 8
abbrev s_Marks_d_ior : Stmt := inClass (topS 17) 9
abbrev s_Book_d_init : Stmt := inClass (topS 18) 0
abbrev s_Book_d_iter : Stmt := inClass (topS 18) 1
abbrev s_Book_places : Stmt := inClass (topS 18) 2
abbrev s_Book_has_rule : Stmt := inClass (topS 18) 3
abbrev s_Book_d_getitem : Stmt := inClass (topS 18) 4
abbrev s_Book_d_setitem : Stmt := inClass (topS 18) 5
abbrev s_Book_is_way : Stmt := inClass (topS 18) 6
abbrev s_Book_enters : Stmt := inClass (topS 18) 7
abbrev s_Book_through : Stmt := inClass (topS 18) 8
abbrev s_Book_last_pass : Stmt := inClass (topS 18) 9
abbrev s_Book_atoms : Stmt := inClass (topS 18) 10
abbrev s_Book_copy : Stmt := inClass (topS 18) 11
abbrev s_Book_changed_copy : Stmt := inClass (topS 18) 12
abbrev s_Book_plus : Stmt := inClass (topS 18) 13
abbrev s_Book_minus : Stmt := inClass (topS 18) 14
abbrev s_Book_outline : Stmt := inClass (topS 18) 15
abbrev s_Book_d_le : Stmt := inClass (topS 18) 16
abbrev s_law_tape : Stmt := topS 20
abbrev s_law_pick : Stmt := topS 21
abbrev s_law_some : Stmt := topS 22
abbrev s_law_kind_names : Stmt := topS 23
abbrev s_law_one : Stmt := topS 24
abbrev s_law_turn : Stmt := topS 25
abbrev s_law_in_time : Stmt := topS 26
abbrev s_law_sources : Stmt := topS 27
abbrev s_law_engine : Stmt := topS 28
abbrev s_law_mark_names : Stmt := topS 29
abbrev s_law_any_reads : Stmt := topS 30
abbrev s_law_places : Stmt := topS 31
abbrev s_law_any_atom : Stmt := topS 32
abbrev s_law_add : Stmt := topS 33
abbrev s_law_more : Stmt := topS 34
abbrev s_law_ways : Stmt := topS 35
abbrev s_law_fence : Stmt := topS 36
abbrev s_law_made_engine : Stmt := topS 37
abbrev s_law_made : Stmt := topS 38
abbrev s_law_distinct : Stmt := topS 39
abbrev s_law_alphabet : Stmt := topS 40
abbrev s_law_rule : Stmt := topS 41
abbrev s_law_told_sets_stay : Stmt := topS 42
abbrev s_law_has_rule : Stmt := topS 43
abbrev s_law_read : Stmt := topS 44
abbrev s_law_meets : Stmt := topS 45
abbrev s_law_is_set : Stmt := topS 46
abbrev s_law_atoms : Stmt := topS 47
abbrev s_law : Stmt := topS 48
/-- where the defs and the classes stand -/
structure Adr where
  C_BadBook : Addr
  C_BadEngine : Addr
  C_Book : Addr
  C_Engine : Addr
  C_Marks : Addr
  f_law_tape : Addr
  f_law_pick : Addr
  f_law_some : Addr
  f_law_one : Addr
  f_law_kind_names : Addr
  f_law_mark_names : Addr
  f_law_turn : Addr
  f_law_in_time : Addr
  f_law_sources : Addr
  f_is_name : Addr
  f_are_distinct : Addr
  f_are_names : Addr
  f_split_source : Addr
  f_Engine_checked : Addr
  f_Engine_d_init : Addr
  f_Marks_d_init : Addr
  f_Marks_d_or : Addr
  f_Marks_d_ior : Addr
  f_Marks_d_len : Addr
  f_law_distinct : Addr
  f_law_alphabet : Addr
  f_Book_d_init : Addr
  f_Book_places : Addr
  f_Book_has_rule : Addr
  f_Book_is_way : Addr
  f_Book_enters : Addr
  f_Book_through : Addr
  f_Book_d_getitem : Addr
  f_Book_d_setitem : Addr
  f_Book_atoms : Addr
  f_law_engine : Addr
  f_law_any_reads : Addr
  f_law_places : Addr
  f_law_any_atom : Addr
  f_law_add : Addr
  f_law_more : Addr
  f_law_ways : Addr
  f_law_fence : Addr
  f_law_made_engine : Addr
  f_law_made : Addr
  f_law_rule : Addr
  f_law_meets : Addr
  f_law_atoms : Addr
  f_law_has_rule : Addr
  f_law_read : Addr
  f_law_is_set : Addr
  f_law_told_sets_stay : Addr
  f_law : Addr
  f_Marks_d_iter : Addr
  c_CHANGE_PLACES : Addr
  c_EDIT_PLACES : Addr
  c_RELATIONS : Addr
  c_WORDS : Addr
abbrev k_CHANGE_PLACES : List Str := ["own", "parent", "next", "children"]
abbrev k_EDIT_PLACES : List Str := ["own", "parent", "next", "up"]
abbrev k_RELATIONS : List Str := ["own", "parent", "children", "before"]
abbrev k_WORDS : List Str := ["style", "insert", "remove", "move"]
/-- what the top has written -/
structure Txt (K : PySem.W.Frag) (mg : Str → Option Value) (a : Adr) : Prop where
  F_law_tape : FunE K "_law_tape" "_law_tape" s_law_tape a.f_law_tape
  g_law_tape : mg "_law_tape" = some (.ref a.f_law_tape)
  F_law_pick : FunE K "_law_pick" "_law_pick" s_law_pick a.f_law_pick
  g_law_pick : mg "_law_pick" = some (.ref a.f_law_pick)
  F_law_some : FunE K "_law_some" "_law_some" s_law_some a.f_law_some
  g_law_some : mg "_law_some" = some (.ref a.f_law_some)
  F_law_one : FunE K "_law_one" "_law_one" s_law_one a.f_law_one
  g_law_one : mg "_law_one" = some (.ref a.f_law_one)
  F_law_kind_names : FunE K "_law_kind_names" "_law_kind_names" s_law_kind_names a.f_law_kind_names
  g_law_kind_names : mg "_law_kind_names" = some (.ref a.f_law_kind_names)
  F_law_mark_names : FunE K "_law_mark_names" "_law_mark_names" s_law_mark_names a.f_law_mark_names
  g_law_mark_names : mg "_law_mark_names" = some (.ref a.f_law_mark_names)
  F_law_turn : FunE K "_law_turn" "_law_turn" s_law_turn a.f_law_turn
  g_law_turn : mg "_law_turn" = some (.ref a.f_law_turn)
  F_law_in_time : FunE K "_law_in_time" "_law_in_time" s_law_in_time a.f_law_in_time
  g_law_in_time : mg "_law_in_time" = some (.ref a.f_law_in_time)
  F_law_sources : FunE K "_law_sources" "_law_sources" s_law_sources a.f_law_sources
  g_law_sources : mg "_law_sources" = some (.ref a.f_law_sources)
  F_is_name : FunE K "is_name" "is_name" s_is_name a.f_is_name
  g_is_name : mg "is_name" = some (.ref a.f_is_name)
  F_are_distinct : FunE K "are_distinct" "are_distinct" s_are_distinct a.f_are_distinct
  g_are_distinct : mg "are_distinct" = some (.ref a.f_are_distinct)
  F_are_names : FunE K "are_names" "are_names" s_are_names a.f_are_names
  g_are_names : mg "are_names" = some (.ref a.f_are_names)
  F_split_source : FunE K "split_source" "split_source" s_split_source a.f_split_source
  g_split_source : mg "split_source" = some (.ref a.f_split_source)
  F_Engine_checked : FunE K "checked" "Engine.checked" s_Engine_checked a.f_Engine_checked
  mt_Engine_checked : Meth K a.C_Engine "checked" a.f_Engine_checked
  F_Engine_d_init : FunE K "__init__" "Engine.__init__" s_Engine_d_init a.f_Engine_d_init
  F_Marks_d_init : FunE K "__init__" "Marks.__init__" s_Marks_d_init a.f_Marks_d_init
  F_Marks_d_or : FunE K "__or__" "Marks.__or__" s_Marks_d_or a.f_Marks_d_or
  m_Marks_d_or : OwnM K a.C_Marks "__or__" a.f_Marks_d_or
  mt_Marks_d_or : Meth K a.C_Marks "__or__" a.f_Marks_d_or
  F_Marks_d_ior : FunE K "__ior__" "Marks.__ior__" s_Marks_d_ior a.f_Marks_d_ior
  m_Marks_d_ior : OwnM K a.C_Marks "__ior__" a.f_Marks_d_ior
  mt_Marks_d_ior : Meth K a.C_Marks "__ior__" a.f_Marks_d_ior
  F_Marks_d_len : FunE K "__len__" "Marks.__len__" s_Marks_d_len a.f_Marks_d_len
  m_Marks_d_len : OwnM K a.C_Marks "__len__" a.f_Marks_d_len
  mt_Marks_d_len : Meth K a.C_Marks "__len__" a.f_Marks_d_len
  F_law_distinct : FunE K "_law_distinct" "_law_distinct" s_law_distinct a.f_law_distinct
  g_law_distinct : mg "_law_distinct" = some (.ref a.f_law_distinct)
  F_law_alphabet : FunE K "_law_alphabet" "_law_alphabet" s_law_alphabet a.f_law_alphabet
  g_law_alphabet : mg "_law_alphabet" = some (.ref a.f_law_alphabet)
  F_Book_d_init : FunE K "__init__" "Book.__init__" s_Book_d_init a.f_Book_d_init
  F_Book_places : FunE K "places" "Book.places" s_Book_places a.f_Book_places
  mt_Book_places : Meth K a.C_Book "places" a.f_Book_places
  F_Book_has_rule : FunE K "has_rule" "Book.has_rule" s_Book_has_rule a.f_Book_has_rule
  mt_Book_has_rule : Meth K a.C_Book "has_rule" a.f_Book_has_rule
  F_Book_is_way : FunE K "is_way" "Book.is_way" s_Book_is_way a.f_Book_is_way
  mt_Book_is_way : Meth K a.C_Book "is_way" a.f_Book_is_way
  F_Book_enters : FunE K "enters" "Book.enters" s_Book_enters a.f_Book_enters
  mt_Book_enters : Meth K a.C_Book "enters" a.f_Book_enters
  F_Book_through : FunE K "through" "Book.through" s_Book_through a.f_Book_through
  mt_Book_through : Meth K a.C_Book "through" a.f_Book_through
  F_Book_d_getitem : FunE K "__getitem__" "Book.__getitem__" s_Book_d_getitem a.f_Book_d_getitem
  m_Book_d_getitem : OwnM K a.C_Book "__getitem__" a.f_Book_d_getitem
  fi_Book_d_getitem : PySem.W.fnIn K a.f_Book_d_getitem = true
  F_Book_d_setitem : FunE K "__setitem__" "Book.__setitem__" s_Book_d_setitem a.f_Book_d_setitem
  m_Book_d_setitem : OwnM K a.C_Book "__setitem__" a.f_Book_d_setitem
  mt_Book_d_setitem : Meth K a.C_Book "__setitem__" a.f_Book_d_setitem
  F_Book_atoms : FunE K "atoms" "Book.atoms" s_Book_atoms a.f_Book_atoms
  mt_Book_atoms : Meth K a.C_Book "atoms" a.f_Book_atoms
  F_law_engine : FunE K "_law_engine" "_law_engine" s_law_engine a.f_law_engine
  g_law_engine : mg "_law_engine" = some (.ref a.f_law_engine)
  F_law_any_reads : FunE K "_law_any_reads" "_law_any_reads" s_law_any_reads a.f_law_any_reads
  g_law_any_reads : mg "_law_any_reads" = some (.ref a.f_law_any_reads)
  F_law_places : FunE K "_law_places" "_law_places" s_law_places a.f_law_places
  g_law_places : mg "_law_places" = some (.ref a.f_law_places)
  F_law_any_atom : FunE K "_law_any_atom" "_law_any_atom" s_law_any_atom a.f_law_any_atom
  g_law_any_atom : mg "_law_any_atom" = some (.ref a.f_law_any_atom)
  F_law_add : FunE K "_law_add" "_law_add" s_law_add a.f_law_add
  g_law_add : mg "_law_add" = some (.ref a.f_law_add)
  F_law_more : FunE K "_law_more" "_law_more" s_law_more a.f_law_more
  g_law_more : mg "_law_more" = some (.ref a.f_law_more)
  F_law_ways : FunE K "_law_ways" "_law_ways" s_law_ways a.f_law_ways
  g_law_ways : mg "_law_ways" = some (.ref a.f_law_ways)
  F_law_fence : FunE K "_law_fence" "_law_fence" s_law_fence a.f_law_fence
  g_law_fence : mg "_law_fence" = some (.ref a.f_law_fence)
  F_law_made_engine : FunE K "_law_made_engine" "_law_made_engine" s_law_made_engine a.f_law_made_engine
  g_law_made_engine : mg "_law_made_engine" = some (.ref a.f_law_made_engine)
  F_law_made : FunE K "_law_made" "_law_made" s_law_made a.f_law_made
  g_law_made : mg "_law_made" = some (.ref a.f_law_made)
  F_law_rule : FunE K "_law_rule" "_law_rule" s_law_rule a.f_law_rule
  g_law_rule : mg "_law_rule" = some (.ref a.f_law_rule)
  F_law_meets : FunE K "_law_meets" "_law_meets" s_law_meets a.f_law_meets
  g_law_meets : mg "_law_meets" = some (.ref a.f_law_meets)
  F_law_atoms : FunE K "_law_atoms" "_law_atoms" s_law_atoms a.f_law_atoms
  g_law_atoms : mg "_law_atoms" = some (.ref a.f_law_atoms)
  F_law_has_rule : FunE K "_law_has_rule" "_law_has_rule" s_law_has_rule a.f_law_has_rule
  g_law_has_rule : mg "_law_has_rule" = some (.ref a.f_law_has_rule)
  F_law_read : FunE K "_law_read" "_law_read" s_law_read a.f_law_read
  g_law_read : mg "_law_read" = some (.ref a.f_law_read)
  F_law_is_set : FunE K "_law_is_set" "_law_is_set" s_law_is_set a.f_law_is_set
  g_law_is_set : mg "_law_is_set" = some (.ref a.f_law_is_set)
  F_law_told_sets_stay : FunE K "_law_told_sets_stay" "_law_told_sets_stay" s_law_told_sets_stay a.f_law_told_sets_stay
  g_law_told_sets_stay : mg "_law_told_sets_stay" = some (.ref a.f_law_told_sets_stay)
  F_law : FunE K "law" "law" s_law a.f_law
  g_law : mg "law" = some (.ref a.f_law)
  F_Marks_d_iter : FunE K "__iter__" "Marks.__iter__" s_Marks_d_iter a.f_Marks_d_iter
  m_Marks_d_iter : OwnM K a.C_Marks "__iter__" a.f_Marks_d_iter
  mt_Marks_d_iter : Meth K a.C_Marks "__iter__" a.f_Marks_d_iter
  g_BadBook : mg "BadBook" = some (.ref a.C_BadBook)
  x_BadBook : ExcC K a.C_BadBook
  em_BadBook : PySem.W.exmOne K (.ref a.C_BadBook) (.ref a.C_BadBook) = some true
  g_BadEngine : mg "BadEngine" = some (.ref a.C_BadEngine)
  x_BadEngine : ExcC K a.C_BadEngine
  g_Book : mg "Book" = some (.ref a.C_Book)
  ns_Book : PySem.W.noSeq K a.C_Book = true
  o_Book : OwnC K a.C_Book
  sf_Book : PySem.W.selfFirst K a.C_Book = true
  nf_Book : PySem.W.notFirst K a.C_Book (.ref a.C_Book) = true
  mk_Book : Mk K a.C_Book a.f_Book_d_init
  n_Book_engine : NoAttr K a.C_Book "engine"
  n_Book_marks : NoAttr K a.C_Book "marks"
  n_Book_reads : NoAttr K a.C_Book "reads"
  n_Book_rules : NoAttr K a.C_Book "rules"
  g_Engine : mg "Engine" = some (.ref a.C_Engine)
  o_Engine : OwnC K a.C_Engine
  sf_Engine : PySem.W.selfFirst K a.C_Engine = true
  nf_Engine : PySem.W.notFirst K a.C_Engine (.ref a.C_Engine) = true
  mk_Engine : Mk K a.C_Engine a.f_Engine_d_init
  n_Engine_attributes : NoAttr K a.C_Engine "attributes"
  n_Engine_kinds : NoAttr K a.C_Engine "kinds"
  n_Engine_passes : NoAttr K a.C_Engine "passes"
  n_Engine_table : NoAttr K a.C_Engine "table"
  g_Marks : mg "Marks" = some (.ref a.C_Marks)
  o_Marks : OwnC K a.C_Marks
  sf_Marks : PySem.W.selfFirst K a.C_Marks = true
  nf_Marks : PySem.W.notFirst K a.C_Marks (.ref a.C_Marks) = true
  mk_Marks : Mk K a.C_Marks a.f_Marks_d_init
  n_Marks_names : NoAttr K a.C_Marks "names"
  i_Marks_Marks : PySem.W.kitOne K (.ref a.C_Marks) (.ref a.C_Marks) = some true
  c_CHANGE_PLACES : mg "CHANGE_PLACES" = some (.ref a.c_CHANGE_PLACES)
  k_CHANGE_PLACES : KTup K a.c_CHANGE_PLACES k_CHANGE_PLACES
  c_EDIT_PLACES : mg "EDIT_PLACES" = some (.ref a.c_EDIT_PLACES)
  k_EDIT_PLACES : KTup K a.c_EDIT_PLACES k_EDIT_PLACES
  c_LETTERS : ∃ t, mg "LETTERS" = some (.str "abcdefghijklmnopqrstuvwxyz" t)
  c_RELATIONS : mg "RELATIONS" = some (.ref a.c_RELATIONS)
  k_RELATIONS : KTup K a.c_RELATIONS k_RELATIONS
  c_WORDS : mg "WORDS" = some (.ref a.c_WORDS)
  k_WORDS : KTup K a.c_WORDS k_WORDS
  z_all : mg "all" = none
  z_any : mg "any" = none
  z_int : mg "int" = none
  z_isinstance : mg "isinstance" = none
  z_iter : mg "iter" = none
  z_len : mg "len" = none
  z_list : mg "list" = none
  z_min : mg "min" = none
  z_range : mg "range" = none
  z_sorted : mg "sorted" = none
  z_str : mg "str" = none
  z_tuple : mg "tuple" = none
abbrev sL (xs : List Str) : List D := xs.map D.str
/-! ### the tape -/
def tapeM (c0 c1 c2 : Int) (xs : List Int) : MO := .lst [.int c0, .int c1, .int c2, .lst (xs.map D.int)]
def IsTape (m : MO) : Prop := ∃ c0 c1 c2 xs, m = tapeM c0 c1 c2 xs ∧ xs.length < 1048576 ∧ 0 ≤ c1 ∧ c1 ≤ xs.length ∧ 0 ≤ c2 ∧ c2 < 2147483647
def w_law_tape (_ : Adr) : TF := fun ds μ _ Φ => ∃ ns : List Int, ns.length ≤ 63 ∧ ds = [.fro (ns.map D.int)] ∧ ∀ p m, μ p = none → IsTape m → Φ (.adr p) (updM μ p m)
def w_law_pick (_ : Adr) : TF := fun ds μ _ Φ => ∃ tp m n, ds = [.adr tp, .int n] ∧ μ tp = some m ∧ IsTape m ∧ 0 < n ∧ n < 1073741824 ∧ ∀ r m', 0 ≤ r → r < n → IsTape m' → Φ (.int r) (updM μ tp m')
/-- a name of letters -/
def Nm (x : Str) : Prop := 1 ≤ x.length ∧ x.length ≤ 8 ∧ ∀ c ∈ x.cps.toList, 97 ≤ c ∧ c ≤ 122
def w_law_letters_name (_ : Adr) : TF := fun ds μ _ Φ => ∃ tp m, ds = [.adr tp] ∧ μ tp = some m ∧ IsTape m ∧ ∀ x m', Nm x → IsTape m' → Φ (.str x) (updM μ tp m')

/-! ### the law's own names -/
def w_law_some (_ : Adr) : TF := fun ds μ _ Φ => ∃ tp m menu c, ds = [.adr tp, .lst (sL menu), .int c] ∧ μ tp = some m ∧ IsTape m ∧ (menu.length = 7 ∨ menu.length = 11) ∧ menu.Nodup ∧ 0 ≤ c ∧ c ≤ menu.length ∧
  ∀ r m', (r.length : Int) = c → r.Nodup → (∀ x ∈ r, x ∈ menu) → IsTape m' → Φ (.lst (sL r)) (updM μ tp m')
def w_law_one (_ : Adr) : TF := fun ds μ _ Φ => ∃ tp m x xs, ds = [.adr tp, x] ∧ μ tp = some m ∧ IsTape m ∧ itemsD μ x = some xs ∧ (∀ m', IsTape m' → itemsD (updM μ tp m') x = some xs) ∧ 0 < xs.length ∧ xs.length < 1000000 ∧
  ∀ d m', d ∈ xs → IsTape m' → Φ d (updM μ tp m')
abbrev kindMenu : List Str := ["page", "line", "a", "word", "gridcell", "z", "textbox", "b", "row", "frame", "aa"]
abbrev nameMenu : List Str := ["width", "x", "height", "place", "baseline", "y", "parent", "w", "depth", "ab", "own"]
abbrev markMenu : List Str := ["dirty", "way", "m", "layout", "childish", "q", "red"]
def wSome (menu : List Str) : TF := fun ds μ _ Φ => ∃ tp m c, ds = [.adr tp, .int c] ∧ μ tp = some m ∧ IsTape m ∧ 0 ≤ c ∧ c ≤ menu.length ∧
  ∀ r m', (r.length : Int) = c → r.Nodup → (∀ x ∈ r, x ∈ menu) → IsTape m' → Φ (.lst (sL r)) (updM μ tp m')
def w_law_kind_names (_ : Adr) : TF := wSome kindMenu
def w_law_mark_names (_ : Adr) : TF := wSome markMenu
/-- a source over these names -/
abbrev rels : List Str := ["own", "parent", "children", "before"]
def IsSrc (names : List Str) (x : Str) : Prop := x = "style" ∨ ∃ rel ∈ rels, ∃ n ∈ names, x = rel ++ "." ++ n
/-- the entry of a dict of the store with texts as keys -/
def Ent (m : Option MO) (k : Str) (d : D) : Prop := ∃ es, dKM m = some es ∧ valD es (.inr k) = some d
def w_law_turn (_ : Adr) : TF := fun _ _ _ _ => False
def w_law_in_time (_ : Adr) : TF := fun _ _ _ _ => False
def w_law_sources (_ : Adr) : TF := fun ds μ _ Φ => ∃ tp m e name names, ds = [.adr tp, .adr e, .str name, .bl true] ∧ μ tp = some m ∧ IsTape m ∧ e ≠ tp ∧ Ent (μ e) "names" (.lst (sL names)) ∧ names.length ≤ 4 ∧ (∀ n ∈ names, n.length ≤ 8) ∧
  ∀ r m', 1 ≤ r.length → r.length ≤ 3 → r.Nodup → (∀ x ∈ r, IsSrc names x) → IsTape m' → Φ (.lst (sL r)) (updM μ tp m')

/-! ### sets of names -/
def MkM (C : Addr) (ys : List Str) : MO := .ins C [("names", .lst (sL ys))]
def MkM0 (C : Addr) : MO := .ins C []
/-- the set of the names that p holds -/
def SetOf (ys : List Str) (p : Str → Prop) : Prop := Srt ys ∧ ∀ z, z ∈ ys ↔ p z
def t_Marks_d_init (a : Adr) : TF := fun ds μ _ Φ => ∃ s xs, ds = [.adr s, .tup (sL xs)] ∧ μ s = some (MkM0 a.C_Marks) ∧ xs.length < 64 ∧ ∀ ys, SetOf ys (· ∈ xs) → Φ .non (updM μ s (MkM a.C_Marks ys))
def w_Marks_d_init (a : Adr) : TF := wStar 1 (t_Marks_d_init a)
def w2 (C : Addr) (op : (Str → Prop) → (Str → Prop) → Str → Prop) : TF := fun ds μ _ Φ => ∃ s o xs ys, ds = [.adr s, .adr o] ∧ μ s = some (MkM C xs) ∧ μ o = some (MkM C ys) ∧ xs.length + ys.length < 64 ∧ ∀ p zs, μ p = none → SetOf zs (op (· ∈ xs) (· ∈ ys)) → Φ (.adr p) (updM μ p (MkM C zs))
def pOr (p q : Str → Prop) : Str → Prop := fun z => p z ∨ q z
def pAnd (p q : Str → Prop) : Str → Prop := fun z => p z ∧ q z
def pSub (p q : Str → Prop) : Str → Prop := fun z => p z ∧ ¬ q z
def w_Marks_d_or (a : Adr) : TF := w2 a.C_Marks pOr
def w_Marks_d_and (a : Adr) : TF := w2 a.C_Marks pAnd
def w_Marks_d_sub (a : Adr) : TF := w2 a.C_Marks pSub
def w_Marks_d_ior (a : Adr) : TF := fun ds μ _ Φ => ∃ s o xs ys, ds = [.adr s, .adr o] ∧ μ s = some (MkM a.C_Marks xs) ∧ μ o = some (MkM a.C_Marks ys) ∧ Srt xs ∧ Srt ys ∧ xs.length + ys.length < 64 ∧ ∀ zs, SetOf zs (pOr (· ∈ xs) (· ∈ ys)) → Φ (.adr s) (updM μ s (MkM a.C_Marks zs))
def w_Marks_d_len (a : Adr) : TF := fun ds μ _ Φ => ∃ s xs, ds = [.adr s] ∧ μ s = some (MkM a.C_Marks xs) ∧ Φ (.int xs.length) μ
def w_law_distinct (_ : Adr) : TF := fun ds μ _ Φ => ∃ d xs, ds = [d] ∧ (∀ μ', itemsD μ' d = some (sL xs)) ∧ xs.length < 64 ∧ Φ (.lst (sL (dd xs))) μ
def w_law_alphabet (_ : Adr) : TF := fun ds μ _ Φ => ∃ d xs, ds = [d] ∧ (∀ μ', itemsD μ' d = some (sL xs)) ∧ xs.length < 64 ∧ ∀ ys, SetOf ys (· ∈ xs) → Φ (.lst (sL ys)) μ

/-! ### names -/
abbrev letters : Str := "abcdefghijklmnopqrstuvwxyz"
def nameB (x : Str) : Bool := (decide (1 ≤ x.length) && decide (x.length ≤ 8)) && x.cps.toList.all fun c => decide (c ∈ letters.cps.toList)
def w_is_name (_ : Adr) : TF := fun ds μ _ Φ => ∃ x, ds = [.str x] ∧ x.length ≤ 1000000 ∧ Φ (.bl (nameB x)) μ
def w_are_distinct (_ : Adr) : TF := fun ds μ _ Φ => ∃ d xs, ds = [d] ∧ lisD μ d = some (sL xs) ∧ xs.length ≤ 1000000 ∧ Φ (.bl (decide xs.Nodup)) μ
def namesB (xs : List Str) (most : Int) : Bool := (decide (1 ≤ (xs.length : Int)) && decide ((xs.length : Int) ≤ most)) && (decide xs.Nodup && xs.all nameB)
def w_are_names (_ : Adr) : TF := fun ds μ _ Φ => ∃ d xs n, ds = [d, .int n] ∧ lisD μ d = some (sL xs) ∧ xs.length ≤ 1000000 ∧ (∀ x ∈ xs, x.length ≤ 1000000) ∧ Φ (.bl (namesB xs n)) μ
def w_split_source (_ : Adr) : TF := fun ds μ _ Φ => ∃ x, ds = [.str x] ∧ x.length ≤ 1000000 ∧ Φ (.tup [.str (Txt.partition x ".").1, .str (Txt.partition x ".").2.2]) μ
/-- is this text a source over these names? -/
def relB (names : List Str) (x : Str) : Bool := decide ((Txt.partition x ".").1 ∈ k_RELATIONS) && (decide ((Txt.partition x ".").2.2 ∈ names) && decide (x = (Txt.partition x ".").1 ++ "." ++ (Txt.partition x ".").2.2))
def srcB (names : List Str) (x : Str) : Bool := decide (x = "style") || relB names x
def checkedB (names xs : List Str) : Bool := (decide (1 ≤ xs.length) && decide (xs.length ≤ 4)) && (decide xs.Nodup && xs.all (srcB names))
def w_Engine_checked (a : Adr) : TF := fun ds μ Ξ Φ => ∃ sd names fs xs d, ds = [sd, d] ∧ insD μ sd = some (a.C_Engine, fs) ∧ fs.lookup ("attributes" : Str) = some (.lst (sL names)) ∧ lisD μ d = some (sL xs) ∧ xs.length ≤ 1000000 ∧ (∀ x ∈ xs, x.length ≤ 100000) ∧
  (checkedB names xs = true → Φ (.tup (sL xs)) μ) ∧ (checkedB names xs = false → Ξ (.ref a.C_BadEngine) [] μ)
/-! ### engines -/
structure Eng where
  kinds : List Str
  passes : List (Str × List Str)
  src : Str → Str → List Str
def Eng.attrs (E : Eng) : List Str := E.passes.flatMap (·.2)
/-- the tables are good -/
structure Eng.Good (E : Eng) : Prop where
  kinds : namesB E.kinds 3 = true
  p1 : 1 ≤ E.passes.length
  p3 : E.passes.length ≤ 3
  dir : ∀ p ∈ E.passes, p.1 = "down" ∨ p.1 = "up"
  ne : ∀ p ∈ E.passes, p.2 ≠ []
  attrs : namesB E.attrs 4 = true
  words : ∀ w ∈ k_WORDS ++ [("fence" : Str)], w ∉ E.attrs
  srcs : ∀ k ∈ E.kinds, ∀ n ∈ E.attrs, checkedB E.attrs (E.src k n) = true ∧ ∀ x ∈ E.src k n, x.length ≤ 100000
/-- how the tables are handed in -/
def Eng.passIn (E : Eng) : List D := E.passes.map fun p => .tup [.str p.1, .lst (sL p.2)]
def Eng.srcIn (E : Eng) : List (Key × D) := E.kinds.map fun k => (.inr k, .dK (E.attrs.map fun n => (.inr n, .lst (sL (E.src k n)))))
/-- an engine's fields -/
def Eng.passD (E : Eng) : List D := E.passes.map fun p => .tup [.str p.1, .ftup (sL p.2)]
def Eng.tabRow (E : Eng) (k : Str) : List (List Key × D) := E.attrs.map fun n => ([.inr k, .inr n], .tup (sL (E.src k n)))
def Eng.tabD (E : Eng) : List (List Key × D) := E.kinds.flatMap E.tabRow
def Eng.flds (E : Eng) : List (Str × D) := [("kinds", .lst (sL E.kinds)), ("passes", .lst E.passD), ("attributes", .lst (sL E.attrs)), ("table", .dT E.tabD)]
def w_Engine_d_init (a : Adr) : TF := fun ds μ _ Φ => ∃ (s : Addr) (E : Eng), E.Good ∧ ds = [.adr s, .lst (sL E.kinds), .lst E.passIn, .dK E.srcIn] ∧ μ s = some (.ins a.C_Engine []) ∧ Φ .non (updM μ s (.ins a.C_Engine E.flds))

/-! ### books -/
structure Bk where
  E : Eng
  marks : List Str
  reads : List (List Str × List Str)
structure Bk.Good (B : Bk) : Prop where
  marks : namesB B.marks 4 = true
  len : B.reads.length = B.E.passes.length
  l3 : B.reads.length ≤ 3
  nd : ∀ p ∈ B.reads, p.1.Nodup ∧ p.2.Nodup
  sub : ∀ p ∈ B.reads, ∀ z, z ∈ p.1 ∨ z ∈ p.2 → z ∈ B.marks
  all : ∀ z ∈ B.marks, ∃ p ∈ B.reads, z ∈ p.1 ∨ z ∈ p.2
/-- a list or a tuple -/
def seqD (g : Bool) (xs : List D) : D := if g then .ftup xs else .lst xs
def Bk.readIn (B : Bk) (g : Bool) : List D := B.reads.map fun p => .tup [seqD g (sL p.1), seqD g (sL p.2)]
def Bk.readD (B : Bk) : List D := B.reads.map fun p => .tup [.ftup (sL p.1), .ftup (sL p.2)]
def Bk.flds (B : Bk) (C : Addr) (rd : D) : List (Str × D) := [("engine", .ins C B.E.flds), ("marks", .lst (sL B.marks)), ("reads", .lst B.readD), ("rules", rd)]
abbrev key3 (k e p : Str) : List Key := [.inr k, .inr e, .inr p]
abbrev at3 (k e p : Str) : D := .tup [.str k, .str e, .str p]
/-- the places of an event -/
def placesB (attrs : List Str) (e : Str) : List Str := if e = "fence" then ["up"] else if e = "remove" then ["parent", "next", "up"] else if e ∈ k_WORDS then k_EDIT_PLACES else if e ∈ attrs then k_CHANGE_PLACES else []
def Bk.has (B : Bk) (k e p : Str) : Bool := decide (k ∈ B.E.kinds) && decide (p ∈ placesB B.E.attrs e)
def Bk.way (B : Bk) (m : Str) : Bool := B.reads.any fun p => decide (m ∈ p.2)
/-- may the mark stand in the rules of this event? -/
def Bk.may (B : Bk) (e m : Str) : Bool := decide (m ∈ B.marks) && !(decide (e = "fence") && B.way m)
abbrev Rt := List (List Key × D)
/-- what the rule at k, e, p holds -/
def Holds (tab : Rt) (k e p : Str) (ns : List Str) : Prop := (valD tab (key3 k e p)).getD (.tup []) = .tup (sL ns)
def atomsB (B : Bk) (f : Str → Str → Str → List Str) : List D := B.E.kinds.flatMap fun k => (k_WORDS ++ B.E.attrs).flatMap fun e => (placesB B.E.attrs e).flatMap fun p => (B.marks.filter fun m => decide (m ∈ f k e p)).map fun m => .tup [.str k, .str e, .str p, .str m]
def w_Book_d_init (a : Adr) : TF := fun ds μ _ Φ => ∃ b, ∃ B : Bk, ∃ g, ds = [.adr b, .ins a.C_Engine B.E.flds, .lst (sL B.marks), .lst (B.readIn g)] ∧ B.Good ∧ μ b = some (.ins a.C_Book []) ∧
  ∀ r, μ r = none → Φ .non (updM (updM μ b (.ins a.C_Book (B.flds a.C_Engine (.adr r)))) r (.dT []))
def w_Book_places (a : Adr) : TF := fun ds μ _ Φ => ∃ sd, ∃ B : Bk, ∃ rd e, ds = [sd, .str e] ∧ insD μ sd = some (a.C_Book, Bk.flds B a.C_Engine rd) ∧ ∀ d, (∀ μ', itemsD μ' d = some (sL (placesB B.E.attrs e))) → Φ d μ
def w_Book_has_rule (a : Adr) : TF := fun ds μ _ Φ => ∃ sd, ∃ B : Bk, ∃ rd k e p, ds = [sd, at3 k e p] ∧ insD μ sd = some (a.C_Book, Bk.flds B a.C_Engine rd) ∧ Φ (.bl (B.has k e p)) μ
def w_Book_is_way (a : Adr) : TF := fun ds μ _ Φ => ∃ sd, ∃ B : Bk, ∃ rd m, ds = [sd, .str m] ∧ insD μ sd = some (a.C_Book, Bk.flds B a.C_Engine rd) ∧ B.reads.length ≤ 3 ∧ Φ (.bl (B.way m)) μ
def w_Book_d_getitem (a : Adr) : TF := fun ds μ Ξ Φ => ∃ sd, ∃ B : Bk, ∃ rd tab k e p ns, ds = [sd, at3 k e p] ∧ insD μ sd = some (a.C_Book, Bk.flds B a.C_Engine rd) ∧ dTD μ rd = some tab ∧ Holds tab k e p ns ∧ ns.length < 64 ∧
  (B.has k e p = true → ∀ q ys, μ q = none → SetOf ys (· ∈ ns) → Φ (.adr q) (updM μ q (MkM a.C_Marks ys))) ∧ (B.has k e p = false → Ξ (.ref a.C_BadBook) [] μ)
def w_Book_d_setitem (a : Adr) : TF := fun ds μ Ξ Φ => ∃ sd, ∃ B : Bk, ∃ r tab k e p m ys, ds = [sd, at3 k e p, .adr m] ∧ insD μ sd = some (a.C_Book, Bk.flds B a.C_Engine (.adr r)) ∧ B.reads.length ≤ 3 ∧ μ r = some (.dT tab) ∧ tab.length < 100000 ∧ μ m = some (MkM a.C_Marks ys) ∧
  ((B.has k e p && ys.all (B.may e)) = true → Φ .non (updM μ r (.dT (putKD tab (key3 k e p) (.tup (sL ys)))))) ∧ ((B.has k e p && ys.all (B.may e)) = false → Ξ (.ref a.C_BadBook) [] μ)
def wBookSet (a : Adr) (pr : List Str × List Str → List Str) : TF := fun ds μ _ Φ => ∃ sd, ∃ B : Bk, ∃ rd i x, ds = [sd, .int i] ∧ insD μ sd = some (a.C_Book, Bk.flds B a.C_Engine rd) ∧ 0 ≤ i ∧ B.reads[i.toNat]? = some x ∧ (pr x).length < 64 ∧
  ∀ q ys, μ q = none → SetOf ys (· ∈ pr x) → Φ (.adr q) (updM μ q (MkM a.C_Marks ys))
def w_Book_enters (a : Adr) : TF := wBookSet a (·.1)
def w_Book_through (a : Adr) : TF := wBookSet a (·.2)
def w_Book_atoms (a : Adr) : TF := fun ds μ _ Φ => ∃ sd, ∃ B : Bk, ∃ rd tab f, ds = [sd] ∧ insD μ sd = some (a.C_Book, Bk.flds B a.C_Engine rd) ∧ dTD μ rd = some tab ∧ B.E.kinds.length ≤ 3 ∧ B.E.attrs.length ≤ 4 ∧ B.marks.length ≤ 4 ∧ B.E.attrs ≠ [] ∧ (∀ k e p, k ∈ B.E.kinds → Holds tab k e p (f k e p)) ∧ Φ (.lst (atomsB B f)) μ

/-! ### the law's engines and books -/
def lstL (ps : List (Str × List Str)) : List D := ps.map fun p => .lst [.str p.1, .lst (sL p.2)]
def engEs (E : Eng) : List (Key × D) := [(.inr "kinds", .lst (sL E.kinds)), (.inr "passes", .lst (lstL E.passes)), (.inr "sources", .dK E.srcIn), (.inr "names", .lst (sL E.attrs))]
structure Eng.Law (E : Eng) : Prop where
  kinds : ∀ k ∈ E.kinds, k ∈ kindMenu
  attrs : ∀ n ∈ E.attrs, n ∈ nameMenu
def w_law_engine (_ : Adr) : TF := fun ds μ _ Φ => ∃ tp m km nm, ds = [.adr tp, .int km, .int nm, .bl true] ∧ μ tp = some m ∧ IsTape m ∧ 1 ≤ km ∧ km ≤ 3 ∧ 1 ≤ nm ∧ nm ≤ 4 ∧
  ∀ (e : Addr) (E : Eng) (m' : MO), E.Good → E.Law → E.kinds.length ≤ km → E.attrs.length ≤ nm → μ e = none → IsTape m' → Φ (.adr e) (updM (updM μ tp m') e (.dK (engEs E)))
def bookEs (B : Bk) (rd : D) : List (Key × D) := engEs B.E ++ [(.inr "rules", rd), (.inr "marks", .lst (sL B.marks)), (.inr "enters", .lst (B.reads.map fun p => .lst (sL p.1))), (.inr "through", .lst (B.reads.map fun p => .lst (sL p.2)))]
def w_law_any_reads (_ : Adr) : TF := fun ds μ _ Φ => ∃ tp m e E, ds = [.adr tp, .adr e] ∧ μ tp = some m ∧ IsTape m ∧ e ≠ tp ∧ μ e = some (.dK (engEs E)) ∧ 1 ≤ E.passes.length ∧ E.passes.length ≤ 3 ∧
  ∀ (marks : List Str) (reads : List (List Str × List Str)) (r : Addr) (m' : MO), (Bk.mk E marks reads).Good → (∀ z ∈ marks, z ∈ markMenu) → μ r = none → r ≠ tp → r ≠ e → IsTape m' →
    Φ .non (updM (updM (updM μ tp m') e (.dK (bookEs (Bk.mk E marks reads) (.adr r)))) r (.dT []))

/-! ### the law's rules -/
def Ext (μ μ' : Mu) : Prop := ∀ x m, μ x = some m → μ' x = some m
/-- what the law's rule at k, e, p holds -/
def LHolds (tab : Rt) (k e p : Str) (ns : List Str) : Prop := (valD tab (key3 k e p)).getD (.lst []) = .lst (sL ns)
structure LTab (B : Bk) (tab : Rt) : Prop where
  nd : (tab.map (·.1)).Nodup
  ent : ∀ x ∈ tab, ∃ k e p ns, x = (key3 k e p, .lst (sL ns)) ∧ k ∈ B.E.kinds ∧ p ∈ placesB B.E.attrs e ∧ ns.Nodup ∧ ∀ z ∈ ns, B.may e z = true
structure BkAt (μ : Mu) (e r : Addr) (B : Bk) (tab : Rt) : Prop where
  hE : μ e = some (.dK (bookEs B (.adr r)))
  hR : μ r = some (.dT tab)
structure MadeAt (a : Adr) (μ : Mu) (b r : Addr) (B : Bk) (tab : Rt) : Prop where
  hB : μ b = some (.ins a.C_Book (B.flds a.C_Engine (.adr r)))
  hR : μ r = some (.dT tab)
structure Bk.Law (B : Bk) : Prop where
  good : B.Good
  eng : B.E.Good
  elaw : B.E.Law
  msub : ∀ z ∈ B.marks, z ∈ markMenu
def lplaces (e : Str) : List Str := if e = "style" ∨ e = "insert" ∨ e = "move" then ["own", "parent", "next", "up"] else if e = "remove" then ["parent", "next", "up"] else ["own", "parent", "next", "children"]
def w_law_places (_ : Adr) : TF := fun ds μ _ Φ => ∃ e, ds = [.str e] ∧ Φ (.lst (sL (lplaces e))) μ
def w_law_any_atom (_ : Adr) : TF := fun ds μ _ Φ => ∃ tp m e, ∃ B : Bk, ∃ rd, ds = [.adr tp, .adr e] ∧ μ tp = some m ∧ IsTape m ∧ e ≠ tp ∧ μ e = some (.dK (bookEs B rd)) ∧ B.Law ∧
  ∀ k ev p z m', k ∈ B.E.kinds → ev ∈ k_WORDS ++ B.E.attrs → p ∈ lplaces ev → z ∈ B.marks → IsTape m' → Φ (.tup [.str k, .str ev, .str p, .str z]) (updM μ tp m')
def w_law_add (_ : Adr) : TF := fun ds μ _ Φ => ∃ e k ev p ms r, ∃ B : Bk, ∃ tab old, ds = [.adr e, .str k, .str ev, .str p, .lst (sL ms)] ∧ BkAt μ e r B tab ∧ LHolds tab k ev p old ∧ old.length + ms.length ≤ 1000 ∧ tab.length ≤ 10000 ∧
  Φ .non (updM μ r (.dT (putKD tab (key3 k ev p) (.lst (sL (old ++ ms.filter fun z => !decide (z ∈ old)))))))
def w_law_more (_ : Adr) : TF := fun ds μ _ Φ => ∃ tp m e r, ∃ B : Bk, ∃ tab, ∃ n : Nat, ds = [.adr tp, .adr e, .int n] ∧ μ tp = some m ∧ IsTape m ∧ e ≠ tp ∧ r ≠ tp ∧ BkAt μ e r B tab ∧ LTab B tab ∧ B.Law ∧ tab.length + n ≤ 1000 ∧
  ∀ tab' m', LTab B tab' → tab'.length ≤ tab.length + n → IsTape m' → Φ .non (updM (updM μ tp m') r (.dT tab'))
def w_law_ways (_ : Adr) : TF := fun ds μ _ Φ => ∃ e, ∃ B : Bk, ∃ rd, ds = [.adr e] ∧ μ e = some (.dK (bookEs B rd)) ∧ B.marks.length ≤ 4 ∧ B.reads.length ≤ 3 ∧ Φ (.lst (sL (B.marks.filter B.way))) μ
def w_law_fence (_ : Adr) : TF := fun ds μ _ Φ => ∃ tp m e r, ∃ B : Bk, ∃ tab, ds = [.adr tp, .adr e] ∧ μ tp = some m ∧ IsTape m ∧ e ≠ tp ∧ r ≠ tp ∧ BkAt μ e r B tab ∧ LTab B tab ∧ B.Law ∧ tab.length + 1 ≤ 1000 ∧
  ∀ tab' m', LTab B tab' → tab'.length ≤ tab.length + 1 → IsTape m' → Φ .non (updM (updM μ tp m') r (.dT tab'))
def w_law_made_engine (a : Adr) : TF := fun ds μ _ Φ => ∃ e, ∃ E : Eng, ds = [.adr e] ∧ E.Good ∧ Ent (μ e) "kinds" (.lst (sL E.kinds)) ∧ Ent (μ e) "passes" (.lst (lstL E.passes)) ∧ Ent (μ e) "sources" (.dK E.srcIn) ∧ Φ (.ins a.C_Engine E.flds) μ
/-- the book's rules are the law's -/
structure RulesOf (tab tab2 : Rt) : Prop where
  len : tab2.length ≤ tab.length
  rule : ∀ k e p ns, LHolds tab k e p ns → ∃ ys, SetOf ys (· ∈ ns) ∧ Holds tab2 k e p ys
def w_law_made (a : Adr) : TF := fun ds μ _ Φ => ∃ e r, ∃ B : Bk, ∃ tab, ds = [.adr e] ∧ BkAt μ e r B tab ∧ LTab B tab ∧ B.Law ∧ tab.length ≤ 1000 ∧
  ∀ b r2 tab2, RulesOf tab tab2 → μ b = none → μ r2 = none → b ≠ r2 → Φ (.adr b) (updM (updM μ b (.ins a.C_Book (B.flds a.C_Engine (.adr r2)))) r2 (.dT tab2))
def w_law_rule (_ : Adr) : TF := fun ds μ _ Φ => ∃ e k ev p r, ∃ B : Bk, ∃ tab ns, ds = [.adr e, .str k, .str ev, .str p] ∧ BkAt μ e r B tab ∧ LHolds tab k ev p ns ∧ B.marks.length ≤ 4 ∧ Φ (.tup (sL (B.marks.filter fun z => decide (z ∈ ns)))) μ
def w_law_atoms (_ : Adr) : TF := fun ds μ _ Φ => ∃ e r, ∃ B : Bk, ∃ tab f, ds = [.adr e] ∧ BkAt μ e r B tab ∧ B.Law ∧ (∀ k e p, k ∈ B.E.kinds → LHolds tab k e p (f k e p)) ∧ Φ (.lst (atomsB B f)) μ
def w_law_meets (_ : Adr) : TF := fun ds μ _ Φ => ∃ d xs ys, ds = [d, .lst (sL ys)] ∧ itemsD μ d = some (sL xs) ∧ xs.length ≤ 1000 ∧ Φ (.bl (xs.any fun z => decide (z ∈ ys))) μ

/-! ### the law -/
def w_law_told_sets_stay (a : Adr) : TF := fun ds μ _ Φ => ∃ e r b r2, ∃ B : Bk, ∃ tab tab2, ds = [.adr e, .adr b] ∧ BkAt μ e r B tab ∧ MadeAt a μ b r2 B tab2 ∧ LTab B tab ∧ RulesOf tab tab2 ∧ B.Law ∧ Φ (.bl true) μ
def w_law_has_rule (_ : Adr) : TF := fun ds μ _ Φ => ∃ e ev p, ∃ B : Bk, ∃ rd, ds = [.adr e, .str ev, .str p] ∧ μ e = some (.dK (bookEs B rd)) ∧ B.Law ∧ Φ (.bl (decide (p ∈ placesB B.E.attrs ev))) μ
def w_law_read (a : Adr) : TF := fun ds μ _ Φ => ∃ b r2, ∃ B : Bk, ∃ tab2 k ev p ns, ds = [.adr b, .str k, .str ev, .str p] ∧ MadeAt a μ b r2 B tab2 ∧ Holds tab2 k ev p ns ∧ ns.length < 64 ∧
  (B.has k ev p = true → ∀ ys, SetOf ys (· ∈ ns) → Φ (.lst (sL ys)) μ) ∧ (B.has k ev p = false → Φ .non μ)
def w_law_is_set (a : Adr) : TF := fun ds μ _ Φ => ∃ b r2, ∃ B : Bk, ∃ tab2 k ev p ms, ds = [.adr b, .str k, .str ev, .str p, .lst (sL ms)] ∧ MadeAt a μ b r2 B tab2 ∧ B.reads.length ≤ 3 ∧ tab2.length ≤ 10000 ∧ ms.length < 32 ∧
  ((B.has k ev p && ms.all (B.may ev)) = true → ∀ ys, SetOf ys (· ∈ ms) → Φ (.bl true) (updM μ r2 (.dT (putKD tab2 (key3 k ev p) (.tup (sL ys)))))) ∧ ((B.has k ev p && ms.all (B.may ev)) = false → Φ (.bl false) μ)
def w_law (_ : Adr) : TF := tLaw

/-- _law_tape -/
abbrev n_law_tape : List Str := ["script"]
theorem sc_law_tape : FnScope n_law_tape ["script"] (defScope s_law_tape) := ⟨rfl, rfl, rfl, by decide +kernel, rfl, by decide +kernel, by decide +kernel⟩
def B_law_tape (a : Adr) : TDS :=
  (dRet (dLstM (dCons (dC (.int 0)) (dCons (dC (.int 0)) (dCons (dC (.int 7)) (dCons (dBi bList (dCons (dVar 0) dNil)) dNil))))))
theorem D_law_tape {P : Program} {w : World} {K : PySem.W.Frag} {mg : Str → Option Value} {base : Heap} {a : Adr} (T : Txt K mg a)  (cdv : Value) (A : Around) (outer : List PySem.Env) (s : Shared) (H : Hp) (E : XK) (hr : Room 0 (A.deeper (PyProof.Rows.envOfC "_law_tape" (defScope s_law_tape) s.heap.objs.size a.f_law_tape cdv))) :
    PSs (cxOf (L2.CX P w) P w K mg base n_law_tape "_law_tape" (defScope s_law_tape) a.f_law_tape cdv A outer s H E) (defBody s_law_tape) (tDS K (fun cls d _ H => E cls d H) (B_law_tape a)) := by
  have tk : Takes (cxOf (L2.CX P w) P w K mg base n_law_tape "_law_tape" (defScope s_law_tape) a.f_law_tape cdv A outer s H E) (fun cls d _ H => E cls d H) := takes_of rfl rfl rfl rfl
  exact (ss_one (s_ret (e_lstM (a_cons e_int (a_cons e_int (a_cons e_int (a_cons (e_bt call_list_of bd_list T.z_list (a_cons (e_var 0) a_nil)) a_nil)))))))
/-- _law_pick -/
abbrev n_law_pick : List Str := ["tape", "count", "cell", "mixed", "digit"]
theorem sc_law_pick : FnScope n_law_pick ["tape", "count"] (defScope s_law_pick) := ⟨rfl, rfl, rfl, by decide +kernel, rfl, by decide +kernel, by decide +kernel⟩
def B_law_pick (a : Adr) : TDS :=
  (dSeq (dIf (dAnd (dTest (dOp oLt (dOp oIx (dVar 0) (dC (.int 0))) (dVar 1))) (dTest (dOp oLt (dOp oIx (dVar 0) (dC (.int 1))) (dBi bLen (dCons (dOp oIx (dVar 0) (dC (.int 3))) dNil))))) (dSeq (dAsg (dOp oIx (dOp oIx (dVar 0) (dC (.int 3))) (dOp oIx (dVar 0) (dC (.int 1)))) (gNm 2)) (dSeq (dAsg (dOp oAdd (dOp oIx (dVar 0) (dC (.int 1))) (dC (.int 1))) (gIx (dVar 0) (dC (.int 1)))) (dSeq (dAsg (dIfE (dTest (dOp oGe (dVar 2) (dOp oPow (dC (.int 10)) (dC (.int 18))))) (dVar 2) (dC (.int 0))) (gIx (dVar 0) (dC (.int 0)))) (dSeq (dAsg (dOp oAdd (dOp oMul (dOp oIx (dVar 0) (dC (.int 2))) (dC (.int 69621))) (dOp oMul (dOp oIx (dVar 0) (dC (.int 1))) (dC (.int 7919)))) (gNm 3)) (dAsg (dOp oMod (dBi bInt (dCons (dOp oAdd (dVar 3) (dOp oMul (dOp oMod (dBi bInt (dCons (dVar 2) dNil)) (dC (.int 1000003))) (dC (.int 48271)))) dNil)) (dC (.int 2147483647))) (gIx (dVar 0) (dC (.int 2)))))))) dNext) (dSeq (dIf (dTest (dOp oGe (dOp oIx (dVar 0) (dC (.int 0))) (dVar 1))) (dSeq (dAsg (dOp oMod (dBi bInt (dCons (dOp oIx (dVar 0) (dC (.int 0))) dNil)) (dVar 1)) (gNm 4)) (dSeq (dAsg (dOp oDiv (dOp oIx (dVar 0) (dC (.int 0))) (dVar 1)) (gIx (dVar 0) (dC (.int 0)))) (dRet (dVar 4)))) dNext) (dSeq (dAsg (dOp oMod (dBi bInt (dCons (dOp oAdd (dOp oMul (dOp oIx (dVar 0) (dC (.int 2))) (dC (.int 48271))) (dC (.int 12345))) dNil)) (dC (.int 2147483647))) (gIx (dVar 0) (dC (.int 2)))) (dRet (dOp oMod (dBi bInt (dCons (dOp oDiv (dOp oIx (dVar 0) (dC (.int 2))) (dC (.int 64))) dNil)) (dVar 1))))))
theorem D_law_pick {P : Program} {w : World} {K : PySem.W.Frag} {mg : Str → Option Value} {base : Heap} {a : Adr} (T : Txt K mg a)  (cdv : Value) (A : Around) (outer : List PySem.Env) (s : Shared) (H : Hp) (E : XK) (hr : Room 0 (A.deeper (PyProof.Rows.envOfC "_law_pick" (defScope s_law_pick) s.heap.objs.size a.f_law_pick cdv))) :
    PSs (cxOf (L2.CX P w) P w K mg base n_law_pick "_law_pick" (defScope s_law_pick) a.f_law_pick cdv A outer s H E) (defBody s_law_pick) (tDS K (fun cls d _ H => E cls d H) (B_law_pick a)) := by
  have tk : Takes (cxOf (L2.CX P w) P w K mg base n_law_pick "_law_pick" (defScope s_law_pick) a.f_law_pick cdv A outer s H E) (fun cls d _ H => E cls d H) := takes_of rfl rfl rfl rfl
  exact (ss_cons (s_if (PW.pt (w_and (t_cmp op_lt od_lt (e_ix (e_var 0) e_int) (e_var 1)) (w_and1 (t_cmp op_lt od_lt (e_ix (e_var 0) e_int) (e_bi call_len bd_len T.z_len (a_cons (e_ix (e_var 0) e_int) a_nil)))))) (ss_cons (s_set 2 sc_law_pick.nd (e_ix (e_ix (e_var 0) e_int) (e_ix (e_var 0) e_int))) (ss_cons (s_asg (e_bin op_addA od_add (e_ix (e_var 0) e_int) e_int) (g_ix (e_var 0) e_int)) (ss_cons (s_asg (e_if (t_cmp op_ge od_ge (e_var 2) (e_bin op_pow od_pow e_int e_int)) (e_var 2) e_int) (g_ix (e_var 0) e_int)) (ss_cons (s_set 3 sc_law_pick.nd (e_bin op_addA od_add (e_bin op_mul od_mul (e_ix (e_var 0) e_int) e_int) (e_bin op_mul od_mul (e_ix (e_var 0) e_int) e_int))) (ss_one (s_asg (e_bin op_mod od_mod (e_bt call_int1 bd_int T.z_int (a_cons (e_bin op_addA od_add (e_var 3) (e_bin op_mul od_mul (e_bin op_mod od_mod (e_bt call_int1 bd_int T.z_int (a_cons (e_var 2) a_nil)) e_int) e_int)) a_nil)) e_int) (g_ix (e_var 0) e_int))))))) ss_nil) (ss_cons (s_if (t_cmp op_ge od_ge (e_ix (e_var 0) e_int) (e_var 1)) (ss_cons (s_set 4 sc_law_pick.nd (e_bin op_mod od_mod (e_bt call_int1 bd_int T.z_int (a_cons (e_ix (e_var 0) e_int) a_nil)) (e_var 1))) (ss_cons (s_asg (e_bin op_fdiv od_div (e_ix (e_var 0) e_int) (e_var 1)) (g_ix (e_var 0) e_int)) (ss_one (s_ret (e_var 4))))) ss_nil) (ss_cons (s_asg (e_bin op_mod od_mod (e_bt call_int1 bd_int T.z_int (a_cons (e_bin op_addA od_add (e_bin op_mul od_mul (e_ix (e_var 0) e_int) e_int) e_int) a_nil)) e_int) (g_ix (e_var 0) e_int)) (ss_one (s_ret (e_bin op_mod od_mod (e_bt call_int1 bd_int T.z_int (a_cons (e_bin op_fdiv od_div (e_ix (e_var 0) e_int) e_int) a_nil)) (e_var 1)))))))
theorem len_law_tape {a : Adr} {ds μ Ξ Φ} (h : w_law_tape a ds μ Ξ Φ) : ds.length = 1 := by obtain ⟨ns, _, rfl, _⟩ := h; rfl
theorem read_law_tape {a : Adr} : ∀ ds μ Ξ Φ, w_law_tape a ds μ Ξ Φ → B_law_tape a { nx := fun _ μ' => Φ .non μ', rt := Φ } (startG n_law_tape ds) μ (fun _ => Ξ) := by
  rintro ds μ Ξ Φ ⟨ns, hn, rfl, h⟩
  unfold B_law_tape
  walk_at "d"
  refine bList_items (xs := ns.map D.int) rfl ?_
  walk_at "d"
  exact ⟨sz_of (show (4 : Nat) ≤ _ by decide), fun p hp => h p _ hp ⟨0, 0, 7, ns, rfl, by omega, by omega, by omega, by omega, by omega⟩⟩
theorem ok_law_tape {P : Program} {w : World} {K : PySem.W.Frag} {mg : Str → Option Value} {base : Heap} {a : Adr} (T : Txt K mg a)  : FnD P w K mg base 1 a.f_law_tape (w_law_tape a) := by
  obtain ⟨fd, F⟩ := T.F_law_tape.ex
  exact fn_D F (F.binds (ps := ["script"]) fun _ _ _ _ _ _ us hl => match us, hl with | [_], _ => rfl) sc_law_tape (fun ds μ Ξ Φ h => len_law_tape h) fun cdv A outer s H E hr => ⟨B_law_tape a, D_law_tape T  cdv A outer s H E hr, fun ds μ Ξ Φ h => read_law_tape ds μ Ξ Φ h⟩
theorem len_law_pick {a : Adr} {ds μ Ξ Φ} (h : w_law_pick a ds μ Ξ Φ) : ds.length = 2 := by obtain ⟨_, _, _, rfl, _⟩ := h; rfl
theorem tape_get {μ : Mu} {tp : Addr} {c0 c1 c2 : Int} {xs : List Int} : itemsD (updM μ tp (tapeM c0 c1 c2 xs)) (.adr tp) = some [.int c0, .int c1, .int c2, .lst (xs.map D.int)] := items_adr updM_same
theorem tape_l {μ : Mu} {tp : Addr} {c0 c1 c2 : Int} {xs : List Int} : (updM μ tp (tapeM c0 c1 c2 xs)) tp = some (.lst [.int c0, .int c1, .int c2, .lst (xs.map D.int)]) := updM_same
theorem read_law_pick {a : Adr} : ∀ ds μ Ξ Φ, w_law_pick a ds μ Ξ Φ → B_law_pick a { nx := fun _ μ' => Φ .non μ', rt := Φ } (startG n_law_pick ds) μ (fun _ => Ξ) := by
  rintro ds μ Ξ Φ ⟨tp, m, n, rfl, ht, ⟨c0, c1, c2, xs, rfl, hx, h1, h1', h2, h2'⟩, hn, hn', h⟩
  unfold B_law_pick
  refine dSeq_to (fun γ' μ' => ∃ d0 d1 d2 o2 o3, γ' = [some (.adr tp), some (.int n), o2, o3, none] ∧ μ' = updM μ tp (tapeM d0 d1 d2 xs) ∧ 0 ≤ d1 ∧ d1 ≤ xs.length ∧ 0 ≤ d2 ∧ d2 < 2147483647) ?_ fun U hU => ?_
  · rintro γ' μ' ⟨d0, d1, d2, o2, o3, rfl, rfl, g1, g1', g2, g2'⟩
    refine dSeq_i ?_
    refine dIf_i ?_
    walk_at "d"
    refine oIx_items tape_get rfl ?_
    walk_at "d"
    refine ite_d (fun q => ?_) fun q => ?_
    · walk_at "d"
      refine oIx_items tape_get rfl ?_
      walk_at "d"
      refine oIx_items tape_get rfl ?_
      walk_at "d"
      refine gIxE_i 0 tape_l (by rfl) ?_
      walk_at "d"
      rw [updM_updM]
      exact h _ _ (Int.emod_nonneg _ (by omega)) (Int.emod_lt_of_pos _ hn) ⟨_, _, _, xs, rfl, hx, g1, g1', g2, g2'⟩
    · walk_at "d"
      refine oIx_items tape_get rfl ?_
      walk_at "d"
      refine gIxE_i 2 tape_l (by rfl) ?_
      walk_at "d"
      refine oIx_items (d := .int ((d2 * 48271 + 12345) % 2147483647)) (items_adr updM_same) rfl ?_
      walk_at "d"
      rw [updM_updM]
      exact h _ _ (Int.emod_nonneg _ (by omega)) (Int.emod_lt_of_pos _ hn) ⟨_, _, _, xs, rfl, hx, g1, g1', Int.emod_nonneg _ (by omega), Int.emod_lt_of_pos _ (by omega)⟩
  · have e0 : updM μ tp (tapeM c0 c1 c2 xs) = μ := updM_self ht
    have no : ∀ o2 o3, U [some (.adr tp), some (.int n), o2, o3, none] (updM μ tp (tapeM c0 c1 c2 xs)) := fun o2 o3 => hU _ _ ⟨c0, c1, c2, o2, o3, rfl, rfl, h1, h1', h2, h2'⟩
    rw [← e0]
    walk_at "d"
    refine oIx_items tape_get rfl ?_
    walk_at "d"
    refine ite_d (fun q => ?_) fun q => ?_
    · refine dTest_i ?_
      walk_at "d"
      refine oIx_items tape_get rfl ?_
      walk_at "d"
      refine oIx_items tape_get rfl ?_
      walk_at "d"
      refine ite_d (fun q2 => ?_) fun q2 => ?_
      · rw [List.length_map] at q2
        walk_at "d"
        refine oIx_items tape_get rfl ?_
        walk_at "d"
        refine oIx_items tape_get rfl ?_
        obtain ⟨cell, _, _, hc⟩ := atI_map (f := D.int) h1 q2
        refine oIx_items rfl hc ?_
        walk_at "d"
        refine oIx_items tape_get rfl ?_
        walk_at "d"
        refine gIxE_i 1 tape_l (by rfl) ?_
        rw [updM_updM]
        walk_at "d"
        have fin : ∀ e0 : Int, U [some (.adr tp), some (.int n), some (.int cell), some (.int (c2 * 69621 + (c1 + 1) * 7919)), none] (updM μ tp (tapeM e0 (c1 + 1) ((c2 * 69621 + (c1 + 1) * 7919 + cell % 1000003 * 48271) % 2147483647) xs)) := fun e0 => hU _ _ ⟨_, _, _, _, _, rfl, rfl, by omega, by omega, Int.emod_nonneg _ (by omega), Int.emod_lt_of_pos _ (by omega)⟩
        have hq : 0 ≤ cell % 1000003 ∧ cell % 1000003 < 1000003 := ⟨Int.emod_nonneg _ (by omega), Int.emod_lt_of_pos _ (by omega)⟩
        have rest : ∀ e0 : Int, _ := fun e0 => fin e0
        refine ite_d (fun q3 => ?_) fun q3 => ?_
        all_goals
          walk_at "d"
          refine gIxE_i 0 updM_same (by rfl) ?_
          rw [updM_updM]
          walk_at "d"
          refine oIx_items (items_adr updM_same) rfl ?_
          walk_at "d"
          refine oIx_items (items_adr updM_same) rfl ?_
          walk_at "d"
          refine gIxE_i 2 updM_same (by rfl) ?_
          rw [updM_updM]
          exact fin _
      · exact no _ _
    · exact no _ _
theorem ok_law_pick {P : Program} {w : World} {K : PySem.W.Frag} {mg : Str → Option Value} {base : Heap} {a : Adr} (T : Txt K mg a)  : FnD P w K mg base 1 a.f_law_pick (w_law_pick a) := by
  obtain ⟨fd, F⟩ := T.F_law_pick.ex
  exact fn_D F (F.binds (ps := ["tape", "count"]) fun _ _ _ _ _ _ us hl => match us, hl with | [_, _], _ => rfl) sc_law_pick (fun ds μ Ξ Φ h => len_law_pick h) fun cdv A outer s H E hr => ⟨B_law_pick a, D_law_pick T  cdv A outer s H E hr, fun ds μ Ξ Φ h => read_law_pick ds μ Ξ Φ h⟩

/-- _law_some -/
abbrev n_law_some : List Str := ["tape", "menu", "count", "start", "step", "k"]
theorem sc_law_some : FnScope n_law_some ["tape", "menu", "count"] (defScope s_law_some) := ⟨rfl, rfl, rfl, by decide +kernel, rfl, by decide +kernel, by decide +kernel⟩
def B_law_some (a : Adr) : TDS :=
  (dSeq (dAsg (dCall (w_law_pick a) (dCons (dVar 0) (dCons (dBi bLen (dCons (dVar 1) dNil)) dNil))) (gNm 3)) (dSeq (dAsg (dOp oAdd (dC (.int 1)) (dCall (w_law_pick a) (dCons (dVar 0) (dCons (dOp oSub (dBi bLen (dCons (dVar 1) dNil)) (dC (.int 1))) dNil)))) (gNm 4)) (dRet (dLc (dRng1 (dCons (dVar 2) dNil)) (cNm 5) dYes (dOp oIx (dVar 1) (dOp oMod (dBi bInt (dCons (dOp oAdd (dVar 3) (dOp oMul (dVar 4) (dVar 5))) dNil)) (dBi bLen (dCons (dVar 1) dNil)))) [5]))))
theorem D_law_some {P : Program} {w : World} {K : PySem.W.Frag} {mg : Str → Option Value} {base : Heap} {a : Adr} (T : Txt K mg a) (G_law_pick : FnD P w K mg base 1 a.f_law_pick (w_law_pick a)) (cdv : Value) (A : Around) (outer : List PySem.Env) (s : Shared) (H : Hp) (E : XK) (hr : Room 1 (A.deeper (PyProof.Rows.envOfC "_law_some" (defScope s_law_some) s.heap.objs.size a.f_law_some cdv))) :
    PSs (cxOf (L2.CX P w) P w K mg base n_law_some "_law_some" (defScope s_law_some) a.f_law_some cdv A outer s H E) (defBody s_law_some) (tDS K (fun cls d _ H => E cls d H) (B_law_some a)) := by
  have tk : Takes (cxOf (L2.CX P w) P w K mg base n_law_some "_law_some" (defScope s_law_some) a.f_law_some cdv A outer s H E) (fun cls d _ H => E cls d H) := takes_of rfl rfl rfl rfl
  exact (ss_cons (s_set 3 sc_law_some.nd (e_call (cal_def G_law_pick (hr.mono (by decide)) tk) T.g_law_pick T.F_law_pick.kp (a_cons (e_var 0) (a_cons (e_bi call_len bd_len T.z_len (a_cons (e_var 1) a_nil)) a_nil)))) (ss_cons (s_set 4 sc_law_some.nd (e_bin op_addA od_add e_int (e_call (cal_def G_law_pick (hr.mono (by decide)) tk) T.g_law_pick T.F_law_pick.kp (a_cons (e_var 0) (a_cons (e_bin op_sub od_sub (e_bi call_len bd_len T.z_len (a_cons (e_var 1) a_nil)) e_int) a_nil))))) (ss_one (s_ret (e_lc (own := [("k", 5)]) rfl sc_law_some.nd (ct_name 5) (i_range1 T.z_range (a_cons (e_var 2) a_nil)) (blkOk_by (own := [("k", 5)]) (N := n_law_some) (sc := defScope s_law_some) (by decide +kernel)) (fun _ _ _ _ _ => (pg_name (i := 5) sc_law_some.nd rfl (by first | exact .inl rfl | exact .inr rfl))) (fun _ _ _ _ _ => ts_nil) (fun _ _ _ _ _ => (e_ix (e_var 1) (e_bin op_mod od_mod (e_bt call_int1 bd_int T.z_int (a_cons (e_bin op_addA od_add (e_var 3) (e_bin op_mul od_mul (e_var 4) (e_var 5))) a_nil)) (e_bi call_len bd_len T.z_len (a_cons (e_var 1) a_nil))))))))))
/-- _law_one -/
abbrev n_law_one : List Str := ["tape", "members"]
theorem sc_law_one : FnScope n_law_one ["tape", "members"] (defScope s_law_one) := ⟨rfl, rfl, rfl, by decide +kernel, rfl, by decide +kernel, by decide +kernel⟩
def B_law_one (a : Adr) : TDS :=
  (dRet (dOp oIx (dVar 1) (dCall (w_law_pick a) (dCons (dVar 0) (dCons (dBi bLen (dCons (dVar 1) dNil)) dNil)))))
theorem D_law_one {P : Program} {w : World} {K : PySem.W.Frag} {mg : Str → Option Value} {base : Heap} {a : Adr} (T : Txt K mg a) (G_law_pick : FnD P w K mg base 1 a.f_law_pick (w_law_pick a)) (cdv : Value) (A : Around) (outer : List PySem.Env) (s : Shared) (H : Hp) (E : XK) (hr : Room 1 (A.deeper (PyProof.Rows.envOfC "_law_one" (defScope s_law_one) s.heap.objs.size a.f_law_one cdv))) :
    PSs (cxOf (L2.CX P w) P w K mg base n_law_one "_law_one" (defScope s_law_one) a.f_law_one cdv A outer s H E) (defBody s_law_one) (tDS K (fun cls d _ H => E cls d H) (B_law_one a)) := by
  have tk : Takes (cxOf (L2.CX P w) P w K mg base n_law_one "_law_one" (defScope s_law_one) a.f_law_one cdv A outer s H E) (fun cls d _ H => E cls d H) := takes_of rfl rfl rfl rfl
  exact (ss_one (s_ret (e_ix (e_var 1) (e_call (cal_def G_law_pick (hr.mono (by decide)) tk) T.g_law_pick T.F_law_pick.kp (a_cons (e_var 0) (a_cons (e_bi call_len bd_len T.z_len (a_cons (e_var 1) a_nil)) a_nil))))))
theorem len_law_some {a : Adr} {ds μ Ξ Φ} (h : w_law_some a ds μ Ξ Φ) : ds.length = 3 := by obtain ⟨_, _, _, _, rfl, _⟩ := h; rfl
theorem mod_ne7 : ∀ s : Fin 7, ∀ d : Fin 7, 0 < s.val → 0 < d.val → (s.val * d.val) % 7 ≠ 0 := by decide
theorem mod_ne11 : ∀ s : Fin 11, ∀ d : Fin 11, 0 < s.val → 0 < d.val → (s.val * d.val) % 11 ≠ 0 := by decide
theorem mod_ne {n s d : Nat} (hn : n = 7 ∨ n = 11) (hs : s < n) (hd : d < n) (s0 : 0 < s) (d0 : 0 < d) : (s * d) % n ≠ 0 := by
  rcases hn with rfl | rfl
  · exact mod_ne7 ⟨s, hs⟩ ⟨d, hd⟩ s0 d0
  · exact mod_ne11 ⟨s, hs⟩ ⟨d, hd⟩ s0 d0
theorem pick_inj {n b s i j : Nat} (hn : n = 7 ∨ n = 11) (hs : s < n) (s0 : 0 < s) (hij : i < j) (hj : j < n) : (b + s * i) % n ≠ (b + s * j) % n := by
  intro e
  refine mod_ne hn hs (show j - i < n by omega) s0 (by omega) ?_
  have h1 : (b + s * j) - (b + s * i) = s * (j - i) := by rw [Nat.mul_sub]; omega
  rw [← h1]
  exact Nat.sub_mod_eq_zero_of_mod_eq e.symm
theorem nd_inj {xs : List Str} (nd : xs.Nodup) {i j : Nat} (hi : i < xs.length) (hj : j < xs.length) (e : xs[i] = xs[j]) : i = j := by
  have h := List.pairwise_iff_getElem.mp nd
  rcases Nat.lt_trichotomy i j with z | z | z
  · exact absurd e (h i j hi hj z)
  · exact z
  · exact absurd e.symm (h j i hj hi z)
theorem read_law_some {a : Adr} : ∀ ds μ Ξ Φ, w_law_some a ds μ Ξ Φ → B_law_some a { nx := fun _ μ' => Φ .non μ', rt := Φ } (startG n_law_some ds) μ (fun _ => Ξ) := by
  rintro ds μ Ξ Φ ⟨tp, m, menu, c, rfl, ht, hm, hl, nd, c0, c1, h⟩
  unfold B_law_some
  walk_at "d"
  rw [List.length_map]
  have hl11 : menu.length ≤ 11 := by rcases hl with h | h <;> omega
  refine ⟨tp, m, menu.length, rfl, ht, hm, by rcases hl with h | h <;> omega, by omega, fun b m' b0 b1 hm' => ?_⟩
  walk_at "d"
  rw [List.length_map]
  refine ⟨tp, m', (menu.length : Int) - 1, rfl, updM_same, hm', by rcases hl with h | h <;> omega, by omega, fun s m2 s0 s1 hm2 => ?_⟩
  rw [updM_updM]
  walk_at "d"
  refine ⟨c, rfl, by omega, by omega, ?_⟩
  have at_ : ∀ k : Nat, ∃ x, x ∈ menu ∧ atI menu ((b + (1 + s) * (k : Int)) % menu.length) = some x ∧ menu[((b.toNat + (1 + s).toNat * k) % menu.length)]? = some x := fun k => by
    have e : (b + (1 + s) * (k : Int)) % menu.length = (((b.toNat + (1 + s).toNat * k) % menu.length : Nat) : Int) := by
      have e1 : b = (b.toNat : Int) := (Int.toNat_of_nonneg b0).symm
      have e2 : 1 + s = ((1 + s).toNat : Int) := (Int.toNat_of_nonneg (by omega)).symm
      rw [e1, e2]
      norm_cast
    have hlt : (b.toNat + (1 + s).toNat * k) % menu.length < menu.length := Nat.mod_lt _ (by rcases hl with h | h <;> omega)
    refine ⟨menu[(b.toNat + (1 + s).toNat * k) % menu.length], List.getElem_mem hlt, ?_, List.getElem?_eq_getElem hlt⟩
    rw [e]
    exact atIn (List.getElem?_eq_getElem hlt)
  refine lc_pure (xs := List.range c.toNat) (fun i : Nat => D.int (0 + i)) (fun k => D.str ((menu[((b.toNat + (1 + s).toNat * k) % menu.length)]?).getD "")) (sz_of (by rw [List.length_range]; omega)) trivial (fun k hk U hU => ?_) ?_
  · walk_at "d"
    rw [List.length_map]
    obtain ⟨x, hx, h1, h2⟩ := at_ k
    refine oMod_int (by rcases hl with h | h <;> omega) ?_
    refine oIx_items (d := .str x) (xs := sL menu) rfl ?_ ?_
    · obtain ⟨y, _, hy1, hy2⟩ := atI_map (f := D.str) (xs := menu) (k := (b + (1 + s) * (k : Int)) % menu.length) (Int.emod_nonneg _ (by rcases hl with h | h <;> omega)) (Int.emod_lt_of_pos _ (by rcases hl with h | h <;> omega))
      have e : atI menu ((b + (1 + s) * (k : Int)) % menu.length) = some y := by
        have := atIn hy1
        rwa [Int.toNat_of_nonneg (Int.emod_nonneg _ (by rcases hl with h | h <;> omega))] at this
      rw [h1] at e
      cases e
      rw [Int.zero_add]
      exact hy2
    · rw [h2] at hU; exact hU
  · have e : (List.range c.toNat).map (fun k => D.str ((menu[((b.toNat + (1 + s).toNat * k) % menu.length)]?).getD "")) = sL ((List.range c.toNat).map fun k => (menu[((b.toNat + (1 + s).toNat * k) % menu.length)]?).getD "") := by rw [sL, List.map_map]; rfl
    rw [e]
    refine h _ m2 ?_ ?_ ?_ hm2
    · rw [List.length_map, List.length_range]; omega
    · refine List.pairwise_map.mpr (List.Pairwise.imp_of_mem (R := (· < ·)) (fun {i j} hi hj hij => ?_) List.pairwise_lt_range)
      have hj := List.mem_range.mp hj
      obtain ⟨x, _, _, hx⟩ := at_ i
      obtain ⟨y, _, _, hy⟩ := at_ j
      rw [hx, hy]
      intro e2
      have e2 : x = y := e2
      subst e2
      obtain ⟨l1, g1⟩ := List.getElem?_eq_some_iff.mp hx
      obtain ⟨l2, g2⟩ := List.getElem?_eq_some_iff.mp hy
      have := nd_inj nd l1 l2 (g1.trans g2.symm)
      exact pick_inj hl (show (1 + s).toNat < menu.length by omega) (by omega) hij (by omega) this
    · intro x hx
      obtain ⟨k, _, rfl⟩ := List.mem_map.mp hx
      obtain ⟨y, hy, _, h2⟩ := at_ k
      rw [h2]; exact hy
theorem ok_law_some {P : Program} {w : World} {K : PySem.W.Frag} {mg : Str → Option Value} {base : Heap} {a : Adr} (T : Txt K mg a) (G_law_pick : FnD P w K mg base 1 a.f_law_pick (w_law_pick a)) : FnD P w K mg base 2 a.f_law_some (w_law_some a) := by
  obtain ⟨fd, F⟩ := T.F_law_some.ex
  exact fn_D F (F.binds (ps := ["tape", "menu", "count"]) fun _ _ _ _ _ _ us hl => match us, hl with | [_, _, _], _ => rfl) sc_law_some (fun ds μ Ξ Φ h => len_law_some h) fun cdv A outer s H E hr => ⟨B_law_some a, D_law_some T G_law_pick cdv A outer s H E hr, fun ds μ Ξ Φ h => read_law_some ds μ Ξ Φ h⟩
theorem len_law_one {a : Adr} {ds μ Ξ Φ} (h : w_law_one a ds μ Ξ Φ) : ds.length = 2 := by obtain ⟨_, _, _, _, rfl, _⟩ := h; rfl
theorem len_items {μ : Mu} {x : D} {xs : List D} {Φ : KD} (h1 : itemsD μ x = some xs) (hz : xs.length < 1000000) (h : Φ (.int xs.length) μ) : bLen [x] μ Φ := by
  refine ⟨x, xs.length, rfl, ?_, h⟩
  cases x with
  | str z => cases h1
  | _ => exact congrArg (Option.map List.length) h1
theorem read_law_one {a : Adr} : ∀ ds μ Ξ Φ, w_law_one a ds μ Ξ Φ → B_law_one a { nx := fun _ μ' => Φ .non μ', rt := Φ } (startG n_law_one ds) μ (fun _ => Ξ) := by
  rintro ds μ Ξ Φ ⟨tp, m, x, xs, rfl, ht, hm, hx, hx2, h0, hz, h⟩
  unfold B_law_one
  walk_at "d"
  refine len_items hx hz ?_
  walk_at "d"
  refine ⟨tp, m, xs.length, rfl, ht, hm, by omega, by omega, fun r m' r0 r1 hm' => ?_⟩
  obtain ⟨d, hd, _, hi⟩ := atI_int r0 r1
  exact oIx_items (hx2 m' hm') hi (h d m' hd hm')
theorem ok_law_one {P : Program} {w : World} {K : PySem.W.Frag} {mg : Str → Option Value} {base : Heap} {a : Adr} (T : Txt K mg a) (G_law_pick : FnD P w K mg base 1 a.f_law_pick (w_law_pick a)) : FnD P w K mg base 2 a.f_law_one (w_law_one a) := by
  obtain ⟨fd, F⟩ := T.F_law_one.ex
  exact fn_D F (F.binds (ps := ["tape", "members"]) fun _ _ _ _ _ _ us hl => match us, hl with | [_, _], _ => rfl) sc_law_one (fun ds μ Ξ Φ h => len_law_one h) fun cdv A outer s H E hr => ⟨B_law_one a, D_law_one T G_law_pick cdv A outer s H E hr, fun ds μ Ξ Φ h => read_law_one ds μ Ξ Φ h⟩

/-- _law_kind_names -/
abbrev n_law_kind_names : List Str := ["tape", "count", "menu"]
theorem sc_law_kind_names : FnScope n_law_kind_names ["tape", "count"] (defScope s_law_kind_names) := ⟨rfl, rfl, rfl, by decide +kernel, rfl, by decide +kernel, by decide +kernel⟩
def B_law_kind_names (a : Adr) : TDS :=
  (dSeq (dAsg (dLst (dCons (dC (.str "page")) (dCons (dC (.str "line")) (dCons (dC (.str "a")) (dCons (dC (.str "word")) (dCons (dC (.str "gridcell")) (dCons (dC (.str "z")) (dCons (dC (.str "textbox")) (dCons (dC (.str "b")) (dCons (dC (.str "row")) (dCons (dC (.str "frame")) (dCons (dC (.str "aa")) dNil)))))))))))) (gNm 2)) (dRet (dCall (w_law_some a) (dCons (dVar 0) (dCons (dVar 2) (dCons (dVar 1) dNil))))))
theorem D_law_kind_names {P : Program} {w : World} {K : PySem.W.Frag} {mg : Str → Option Value} {base : Heap} {a : Adr} (T : Txt K mg a) (G_law_some : FnD P w K mg base 2 a.f_law_some (w_law_some a)) (cdv : Value) (A : Around) (outer : List PySem.Env) (s : Shared) (H : Hp) (E : XK) (hr : Room 2 (A.deeper (PyProof.Rows.envOfC "_law_kind_names" (defScope s_law_kind_names) s.heap.objs.size a.f_law_kind_names cdv))) :
    PSs (cxOf (L2.CX P w) P w K mg base n_law_kind_names "_law_kind_names" (defScope s_law_kind_names) a.f_law_kind_names cdv A outer s H E) (defBody s_law_kind_names) (tDS K (fun cls d _ H => E cls d H) (B_law_kind_names a)) := by
  have tk : Takes (cxOf (L2.CX P w) P w K mg base n_law_kind_names "_law_kind_names" (defScope s_law_kind_names) a.f_law_kind_names cdv A outer s H E) (fun cls d _ H => E cls d H) := takes_of rfl rfl rfl rfl
  exact (ss_cons (s_set 2 sc_law_kind_names.nd (e_lst (a_cons e_str (a_cons e_str (a_cons e_str (a_cons e_str (a_cons e_str (a_cons e_str (a_cons e_str (a_cons e_str (a_cons e_str (a_cons e_str (a_cons e_str a_nil))))))))))))) (ss_one (s_ret (e_call (cal_def G_law_some (hr.mono (by decide)) tk) T.g_law_some T.F_law_some.kp (a_cons (e_var 0) (a_cons (e_var 2) (a_cons (e_var 1) a_nil)))))))
/-- _law_mark_names -/
abbrev n_law_mark_names : List Str := ["tape", "count"]
theorem sc_law_mark_names : FnScope n_law_mark_names ["tape", "count"] (defScope s_law_mark_names) := ⟨rfl, rfl, rfl, by decide +kernel, rfl, by decide +kernel, by decide +kernel⟩
def B_law_mark_names (a : Adr) : TDS :=
  (dRet (dCall (w_law_some a) (dCons (dVar 0) (dCons (dLst (dCons (dC (.str "dirty")) (dCons (dC (.str "way")) (dCons (dC (.str "m")) (dCons (dC (.str "layout")) (dCons (dC (.str "childish")) (dCons (dC (.str "q")) (dCons (dC (.str "red")) dNil)))))))) (dCons (dVar 1) dNil)))))
theorem D_law_mark_names {P : Program} {w : World} {K : PySem.W.Frag} {mg : Str → Option Value} {base : Heap} {a : Adr} (T : Txt K mg a) (G_law_some : FnD P w K mg base 2 a.f_law_some (w_law_some a)) (cdv : Value) (A : Around) (outer : List PySem.Env) (s : Shared) (H : Hp) (E : XK) (hr : Room 2 (A.deeper (PyProof.Rows.envOfC "_law_mark_names" (defScope s_law_mark_names) s.heap.objs.size a.f_law_mark_names cdv))) :
    PSs (cxOf (L2.CX P w) P w K mg base n_law_mark_names "_law_mark_names" (defScope s_law_mark_names) a.f_law_mark_names cdv A outer s H E) (defBody s_law_mark_names) (tDS K (fun cls d _ H => E cls d H) (B_law_mark_names a)) := by
  have tk : Takes (cxOf (L2.CX P w) P w K mg base n_law_mark_names "_law_mark_names" (defScope s_law_mark_names) a.f_law_mark_names cdv A outer s H E) (fun cls d _ H => E cls d H) := takes_of rfl rfl rfl rfl
  exact (ss_one (s_ret (e_call (cal_def G_law_some (hr.mono (by decide)) tk) T.g_law_some T.F_law_some.kp (a_cons (e_var 0) (a_cons (e_lst (a_cons e_str (a_cons e_str (a_cons e_str (a_cons e_str (a_cons e_str (a_cons e_str (a_cons e_str a_nil)))))))) (a_cons (e_var 1) a_nil))))))
/-- _law_turn -/
abbrev n_law_turn : List Str := ["engine", "name", "k"]
theorem sc_law_turn : FnScope n_law_turn ["engine", "name"] (defScope s_law_turn) := ⟨rfl, rfl, rfl, by decide +kernel, rfl, by decide +kernel, by decide +kernel⟩
def B_law_turn (a : Adr) : TDS :=
  (dRet (dOp oIx (dLc (dRng1 (dCons (dBi bLen (dCons (dOp oDGet (dVar 0) (dC (.str "passes"))) dNil)) dNil)) (cNm 2) (dTest (dOp (oIn false) (dVar 1) (dOp oIx (dOp oIx (dOp oDGet (dVar 0) (dC (.str "passes"))) (dVar 2)) (dC (.int 1))))) (dVar 2) [2]) (dC (.int 0))))
theorem D_law_turn {P : Program} {w : World} {K : PySem.W.Frag} {mg : Str → Option Value} {base : Heap} {a : Adr} (T : Txt K mg a)  (cdv : Value) (A : Around) (outer : List PySem.Env) (s : Shared) (H : Hp) (E : XK) (hr : Room 0 (A.deeper (PyProof.Rows.envOfC "_law_turn" (defScope s_law_turn) s.heap.objs.size a.f_law_turn cdv))) :
    PSs (cxOf (L2.CX P w) P w K mg base n_law_turn "_law_turn" (defScope s_law_turn) a.f_law_turn cdv A outer s H E) (defBody s_law_turn) (tDS K (fun cls d _ H => E cls d H) (B_law_turn a)) := by
  have tk : Takes (cxOf (L2.CX P w) P w K mg base n_law_turn "_law_turn" (defScope s_law_turn) a.f_law_turn cdv A outer s H E) (fun cls d _ H => E cls d H) := takes_of rfl rfl rfl rfl
  exact (ss_one (s_ret (e_ix (e_lc (own := [("k", 2)]) rfl sc_law_turn.nd (ct_name 2) (i_range1 T.z_range (a_cons (e_bi call_len bd_len T.z_len (a_cons (e_dget (huD hr) (e_var 0) e_str) a_nil)) a_nil)) (blkOk_by (own := [("k", 2)]) (N := n_law_turn) (sc := defScope s_law_turn) (by decide +kernel)) (fun _ _ _ _ _ => (pg_name (i := 2) sc_law_turn.nd rfl (by first | exact .inl rfl | exact .inr rfl))) (fun _ _ _ _ _ => (ts_one (t_cmp op_in_seq od_in (e_var 1) (e_ix (e_ix (e_dget (huD hr) (e_var 0) e_str) (e_var 2)) e_int)))) (fun _ _ _ _ _ => (e_var 2))) e_int)))
/-- _law_in_time -/
abbrev n_law_in_time : List Str := ["engine", "name", "source", "parts", "first", "second", "names", "due"]
theorem sc_law_in_time : FnScope n_law_in_time ["engine", "name", "source"] (defScope s_law_in_time) := ⟨rfl, rfl, rfl, by decide +kernel, rfl, by decide +kernel, by decide +kernel⟩
def B_law_in_time (a : Adr) : TDS :=
  (dSeq (dAsg (dBm isStr mSplit (dVar 2) (dCons (dC (.str ".")) dNil)) (gNm 3)) (dSeq (dIf (dTest (dOp (oEq false) (dOp oIx (dVar 3) (dC (.int 0))) (dC (.str "style")))) (dRet (dC (.bl true))) dNext) (dSeq (dAsg (dCall (w_law_turn a) (dCons (dVar 0) (dCons (dOp oIx (dVar 3) (dC (.int 1))) dNil))) (gNm 4)) (dSeq (dAsg (dCall (w_law_turn a) (dCons (dVar 0) (dCons (dVar 1) dNil))) (gNm 5)) (dSeq (dIf (dTest (dOp (oEq true) (dVar 4) (dVar 5))) (dRet (dOp oLt (dVar 4) (dVar 5))) dNext) (dSeq (dIf (dTest (dOp (oEq false) (dOp oIx (dVar 3) (dC (.int 0))) (dC (.str "own")))) (dSeq (dAsg (dOp oIx (dOp oIx (dOp oDGet (dVar 0) (dC (.str "passes"))) (dVar 5)) (dC (.int 1))) (gNm 6)) (dRet (dOp oLt (dBm isLis mIndex (dVar 6) (dCons (dOp oIx (dVar 3) (dC (.int 1))) dNil)) (dBm isLis mIndex (dVar 6) (dCons (dVar 1) dNil))))) dNext) (dSeq (dAsg (dDisp [((dC (.str "parent")), (dLst (dCons (dC (.str "down")) dNil))), ((dC (.str "children")), (dLst (dCons (dC (.str "up")) dNil))), ((dC (.str "before")), (dLst (dCons (dC (.str "down")) (dCons (dC (.str "up")) dNil))))]) (gNm 7)) (dRet (dOp (oIn false) (dOp oIx (dOp oIx (dOp oDGet (dVar 0) (dC (.str "passes"))) (dVar 5)) (dC (.int 0))) (dOp oDGet (dVar 7) (dOp oIx (dVar 3) (dC (.int 0)))))))))))))
theorem D_law_in_time {P : Program} {w : World} {K : PySem.W.Frag} {mg : Str → Option Value} {base : Heap} {a : Adr} (T : Txt K mg a) (G_law_turn : FnD P w K mg base 1 a.f_law_turn (w_law_turn a)) (cdv : Value) (A : Around) (outer : List PySem.Env) (s : Shared) (H : Hp) (E : XK) (hr : Room 1 (A.deeper (PyProof.Rows.envOfC "_law_in_time" (defScope s_law_in_time) s.heap.objs.size a.f_law_in_time cdv))) :
    PSs (cxOf (L2.CX P w) P w K mg base n_law_in_time "_law_in_time" (defScope s_law_in_time) a.f_law_in_time cdv A outer s H E) (defBody s_law_in_time) (tDS K (fun cls d _ H => E cls d H) (B_law_in_time a)) := by
  have tk : Takes (cxOf (L2.CX P w) P w K mg base n_law_in_time "_law_in_time" (defScope s_law_in_time) a.f_law_in_time cdv A outer s H E) (fun cls d _ H => E cls d H) := takes_of rfl rfl rfl rfl
  exact (ss_cons (s_set 3 sc_law_in_time.nd (e_bm PySem.F.plainAttrs_str PySem.F.slot_str_split PySem.F.type_str_split mt_split md_split (e_var 2) (a_cons e_str a_nil))) (ss_cons (s_if (t_cmp (op_eqA hr) od_eq (e_ix (e_var 3) e_int) e_str) (ss_one (s_ret e_bl)) ss_nil) (ss_cons (s_set 4 sc_law_in_time.nd (e_call (cal_def G_law_turn (hr.mono (by decide)) tk) T.g_law_turn T.F_law_turn.kp (a_cons (e_var 0) (a_cons (e_ix (e_var 3) e_int) a_nil)))) (ss_cons (s_set 5 sc_law_in_time.nd (e_call (cal_def G_law_turn (hr.mono (by decide)) tk) T.g_law_turn T.F_law_turn.kp (a_cons (e_var 0) (a_cons (e_var 1) a_nil)))) (ss_cons (s_if (t_cmp (op_neA hr) od_ne (e_var 4) (e_var 5)) (ss_one (s_ret (e_cmp op_lt od_lt (e_var 4) (e_var 5)))) ss_nil) (ss_cons (s_if (t_cmp (op_eqA hr) od_eq (e_ix (e_var 3) e_int) e_str) (ss_cons (s_set 6 sc_law_in_time.nd (e_ix (e_ix (e_dget (huD hr) (e_var 0) e_str) (e_var 5)) e_int)) (ss_one (s_ret (e_cmp op_lt od_lt (e_bm PySem.F.plainAttrs_list PySem.F.slot_list_index PySem.F.type_list_index mt_index md_index (e_var 6) (a_cons (e_ix (e_var 3) e_int) a_nil)) (e_bm PySem.F.plainAttrs_list PySem.F.slot_list_index PySem.F.type_list_index mt_index md_index (e_var 6) (a_cons (e_var 1) a_nil)))))) ss_nil) (ss_cons (s_set 7 sc_law_in_time.nd (e_disp (p_cons e_str (e_lst (a_cons e_str a_nil)) (p_cons e_str (e_lst (a_cons e_str a_nil)) (p_cons e_str (e_lst (a_cons e_str (a_cons e_str a_nil))) p_nil))))) (ss_one (s_ret (e_cmp op_in_seq od_in (e_ix (e_ix (e_dget (huD hr) (e_var 0) e_str) (e_var 5)) e_int) (e_dget (huD hr) (e_var 7) (e_ix (e_var 3) e_int))))))))))))
/-- _law_sources -/
abbrev n_law_sources : List Str := ["tape", "engine", "name", "late", "every", "relation", "other", "found", "k", "source"]
theorem sc_law_sources : FnScope n_law_sources ["tape", "engine", "name", "late"] (defScope s_law_sources) := ⟨rfl, rfl, rfl, by decide +kernel, rfl, by decide +kernel, by decide +kernel⟩
def B_law_sources (a : Adr) : TDS :=
  (dSeq (dAsg (dLstM (dCons (dC (.str "style")) dNil)) (gNm 4)) (dSeq (dFor (dIt (dLst (dCons (dC (.str "own")) (dCons (dC (.str "parent")) (dCons (dC (.str "children")) (dCons (dC (.str "before")) dNil)))))) (gNm 5) (dFor (dIt (dOp oDGet (dVar 1) (dC (.str "names")))) (gNm 6) (dIf (dOr (dTru (dVar 3)) (dTru (dCall (w_law_in_time a) (dCons (dVar 1) (dCons (dVar 2) (dCons (dOp oAdd (dOp oAdd (dVar 5) (dC (.str "."))) (dVar 6)) dNil)))))) (dDrop (dBm isLis mAppend (dVar 4) (dCons (dOp oAdd (dOp oAdd (dVar 5) (dC (.str "."))) (dVar 6)) dNil))) dNext))) (dSeq (dAsg (dLstM dNil) (gNm 7)) (dSeq (dFor (dRng1 (dCons (dOp oAdd (dC (.int 1)) (dCall (w_law_pick a) (dCons (dVar 0) (dCons (dC (.int 3)) dNil)))) dNil)) (gNm 8) (dSeq (dAsg (dCall (w_law_one a) (dCons (dVar 0) (dCons (dVar 4) dNil))) (gNm 9)) (dIf (dTest (dOp (oIn true) (dVar 9) (dVar 7))) (dDrop (dBm isLis mAppend (dVar 7) (dCons (dVar 9) dNil))) dNext))) (dRet (dFgt (dFrz (dVar 7))))))))
theorem D_law_sources {P : Program} {w : World} {K : PySem.W.Frag} {mg : Str → Option Value} {base : Heap} {a : Adr} (T : Txt K mg a) (G_law_in_time : FnD P w K mg base 2 a.f_law_in_time (w_law_in_time a)) (G_law_pick : FnD P w K mg base 1 a.f_law_pick (w_law_pick a)) (G_law_one : FnD P w K mg base 2 a.f_law_one (w_law_one a)) (cdv : Value) (A : Around) (outer : List PySem.Env) (s : Shared) (H : Hp) (E : XK) (hr : Room 2 (A.deeper (PyProof.Rows.envOfC "_law_sources" (defScope s_law_sources) s.heap.objs.size a.f_law_sources cdv))) :
    PSs (cxOf (L2.CX P w) P w K mg base n_law_sources "_law_sources" (defScope s_law_sources) a.f_law_sources cdv A outer s H E) (defBody s_law_sources) (tDS K (fun cls d _ H => E cls d H) (B_law_sources a)) := by
  have tk : Takes (cxOf (L2.CX P w) P w K mg base n_law_sources "_law_sources" (defScope s_law_sources) a.f_law_sources cdv A outer s H E) (fun cls d _ H => E cls d H) := takes_of rfl rfl rfl rfl
  exact (ss_cons (s_set 4 sc_law_sources.nd (e_lstM (a_cons e_str a_nil))) (ss_cons (s_for (passes_of rfl) rfl (i_seq (e_lst (a_cons e_str (a_cons e_str (a_cons e_str (a_cons e_str a_nil)))))) (g_name 5 sc_law_sources.nd) (ss_one (s_for (passes_of rfl) rfl (i_seq (e_dget (huD hr) (e_var 1) e_str)) (g_name 6 sc_law_sources.nd) (ss_one (s_if (PW.pt (w_or (t_tru (e_var 3)) (w_or1 (t_tru (e_call (cal_def G_law_in_time (hr.mono (by decide)) tk) T.g_law_in_time T.F_law_in_time.kp (a_cons (e_var 1) (a_cons (e_var 2) (a_cons (e_bin op_addA od_add (e_bin op_addA od_add (e_var 5) e_str) (e_var 6)) a_nil)))))))) (ss_one (s_expr (e_bm PySem.F.plainAttrs_list PySem.F.slot_list_append PySem.F.type_list_append mt_append md_append (e_var 4) (a_cons (e_bin op_addA od_add (e_bin op_addA od_add (e_var 5) e_str) (e_var 6)) a_nil)))) ss_nil))))) (ss_cons (s_set 7 sc_law_sources.nd (e_lstM a_nil)) (ss_cons (s_for (passes_of rfl) rfl (i_range1 T.z_range (a_cons (e_bin op_addA od_add e_int (e_call (cal_def G_law_pick (hr.mono (by decide)) tk) T.g_law_pick T.F_law_pick.kp (a_cons (e_var 0) (a_cons e_int a_nil)))) a_nil)) (g_name 8 sc_law_sources.nd) (ss_cons (s_set 9 sc_law_sources.nd (e_call (cal_def G_law_one (hr.mono (by decide)) tk) T.g_law_one T.F_law_one.kp (a_cons (e_var 0) (a_cons (e_var 4) a_nil)))) (ss_one (s_if (t_cmp op_notIn_seq od_in (e_var 9) (e_var 7)) (ss_one (s_expr (e_bm PySem.F.plainAttrs_list PySem.F.slot_list_append PySem.F.type_list_append mt_append md_append (e_var 7) (a_cons (e_var 9) a_nil)))) ss_nil)))) (ss_one (s_ret (e_fgt (e_frz (e_var 7)))))))))
theorem wSome_len {menu : List Str} {ds μ Ξ Φ} (h : wSome menu ds μ Ξ Φ) : ds.length = 2 := by obtain ⟨_, _, _, rfl, _⟩ := h; rfl
theorem len_law_kind_names {a : Adr} {ds μ Ξ Φ} (h : w_law_kind_names a ds μ Ξ Φ) : ds.length = 2 := wSome_len h
theorem read_law_kind_names {a : Adr} : ∀ ds μ Ξ Φ, w_law_kind_names a ds μ Ξ Φ → B_law_kind_names a { nx := fun _ μ' => Φ .non μ', rt := Φ } (startG n_law_kind_names ds) μ (fun _ => Ξ) := by
  rintro ds μ Ξ Φ ⟨tp, m, c, rfl, ht, hm, c0, c1, h⟩
  unfold B_law_kind_names
  walk_at "d"
  refine ⟨sz_of (by decide), ?_⟩
  walk_at "d"
  exact ⟨tp, m, kindMenu, c, rfl, ht, hm, .inr rfl, by decide +kernel, c0, c1, h⟩
theorem ok_law_kind_names {P : Program} {w : World} {K : PySem.W.Frag} {mg : Str → Option Value} {base : Heap} {a : Adr} (T : Txt K mg a) (G_law_some : FnD P w K mg base 2 a.f_law_some (w_law_some a)) : FnD P w K mg base 3 a.f_law_kind_names (w_law_kind_names a) := by
  obtain ⟨fd, F⟩ := T.F_law_kind_names.ex
  exact fn_D F (F.binds (ps := ["tape", "count"]) fun _ _ _ _ _ _ us hl => match us, hl with | [_, _], _ => rfl) sc_law_kind_names (fun ds μ Ξ Φ h => len_law_kind_names h) fun cdv A outer s H E hr => ⟨B_law_kind_names a, D_law_kind_names T G_law_some cdv A outer s H E hr, fun ds μ Ξ Φ h => read_law_kind_names ds μ Ξ Φ h⟩
theorem len_law_mark_names {a : Adr} {ds μ Ξ Φ} (h : w_law_mark_names a ds μ Ξ Φ) : ds.length = 2 := wSome_len h
theorem read_law_mark_names {a : Adr} : ∀ ds μ Ξ Φ, w_law_mark_names a ds μ Ξ Φ → B_law_mark_names a { nx := fun _ μ' => Φ .non μ', rt := Φ } (startG n_law_mark_names ds) μ (fun _ => Ξ) := by
  rintro ds μ Ξ Φ ⟨tp, m, c, rfl, ht, hm, c0, c1, h⟩
  unfold B_law_mark_names
  walk_at "d"
  refine ⟨sz_of (by decide), ?_⟩
  walk_at "d"
  exact ⟨tp, m, markMenu, c, rfl, ht, hm, .inl rfl, by decide +kernel, c0, c1, h⟩
theorem ok_law_mark_names {P : Program} {w : World} {K : PySem.W.Frag} {mg : Str → Option Value} {base : Heap} {a : Adr} (T : Txt K mg a) (G_law_some : FnD P w K mg base 2 a.f_law_some (w_law_some a)) : FnD P w K mg base 3 a.f_law_mark_names (w_law_mark_names a) := by
  obtain ⟨fd, F⟩ := T.F_law_mark_names.ex
  exact fn_D F (F.binds (ps := ["tape", "count"]) fun _ _ _ _ _ _ us hl => match us, hl with | [_, _], _ => rfl) sc_law_mark_names (fun ds μ Ξ Φ h => len_law_mark_names h) fun cdv A outer s H E hr => ⟨B_law_mark_names a, D_law_mark_names T G_law_some cdv A outer s H E hr, fun ds μ Ξ Φ h => read_law_mark_names ds μ Ξ Φ h⟩
theorem len_law_turn {a : Adr} {ds μ Ξ Φ} (h : w_law_turn a ds μ Ξ Φ) : ds.length = 2 := h.elim
theorem read_law_turn {a : Adr} : ∀ ds μ Ξ Φ, w_law_turn a ds μ Ξ Φ → B_law_turn a { nx := fun _ μ' => Φ .non μ', rt := Φ } (startG n_law_turn ds) μ (fun _ => Ξ) := fun _ _ _ _ h => h.elim
theorem ok_law_turn {P : Program} {w : World} {K : PySem.W.Frag} {mg : Str → Option Value} {base : Heap} {a : Adr} (T : Txt K mg a)  : FnD P w K mg base 1 a.f_law_turn (w_law_turn a) := by
  obtain ⟨fd, F⟩ := T.F_law_turn.ex
  exact fn_D F (F.binds (ps := ["engine", "name"]) fun _ _ _ _ _ _ us hl => match us, hl with | [_, _], _ => rfl) sc_law_turn (fun ds μ Ξ Φ h => len_law_turn h) fun cdv A outer s H E hr => ⟨B_law_turn a, D_law_turn T  cdv A outer s H E hr, fun ds μ Ξ Φ h => read_law_turn ds μ Ξ Φ h⟩
theorem len_law_in_time {a : Adr} {ds μ Ξ Φ} (h : w_law_in_time a ds μ Ξ Φ) : ds.length = 3 := h.elim
theorem read_law_in_time {a : Adr} : ∀ ds μ Ξ Φ, w_law_in_time a ds μ Ξ Φ → B_law_in_time a { nx := fun _ μ' => Φ .non μ', rt := Φ } (startG n_law_in_time ds) μ (fun _ => Ξ) := fun _ _ _ _ h => h.elim
theorem ok_law_in_time {P : Program} {w : World} {K : PySem.W.Frag} {mg : Str → Option Value} {base : Heap} {a : Adr} (T : Txt K mg a) (G_law_turn : FnD P w K mg base 1 a.f_law_turn (w_law_turn a)) : FnD P w K mg base 2 a.f_law_in_time (w_law_in_time a) := by
  obtain ⟨fd, F⟩ := T.F_law_in_time.ex
  exact fn_D F (F.binds (ps := ["engine", "name", "source"]) fun _ _ _ _ _ _ us hl => match us, hl with | [_, _, _], _ => rfl) sc_law_in_time (fun ds μ Ξ Φ h => len_law_in_time h) fun cdv A outer s H E hr => ⟨B_law_in_time a, D_law_in_time T G_law_turn cdv A outer s H E hr, fun ds μ Ξ Φ h => read_law_in_time ds μ Ξ Φ h⟩
theorem len_law_sources {a : Adr} {ds μ Ξ Φ} (h : w_law_sources a ds μ Ξ Φ) : ds.length = 4 := by obtain ⟨_, _, _, _, _, rfl, _⟩ := h; rfl
theorem ent_get {μ : Mu} {e : Addr} {k : Str} {d : D} {Φ : KD} (h : Ent (μ e) k d) (q : Φ d μ) : oDGet (.adr e) (.str k) μ Φ := by
  obtain ⟨es, h1, h2⟩ := h
  refine ⟨d, ?_, q⟩
  show (dKM (μ e)).map (fun es => valD es (.inr k)) = _
  rw [h1]; exact congrArg some h2
theorem rel_len : ∀ rel ∈ rels, rel.length ≤ 8 := by decide +kernel
theorem sL_snoc (xs : List Str) (x : Str) : sL (xs ++ [x]) = sL xs ++ [D.str x] := List.map_append
theorem src_len {names : List Str} (hn8 : ∀ n ∈ names, n.length ≤ 8) {rel n : Str} (h1 : rel ∈ rels) (h2 : n ∈ names) : (rel ++ ".").length = rel.length + 1 ∧ rel.length ≤ 8 ∧ n.length ≤ 8 :=
  ⟨len_app rel ".", rel_len rel h1, hn8 n h2⟩
theorem read_law_sources {a : Adr} : ∀ ds μ Ξ Φ, w_law_sources a ds μ Ξ Φ → B_law_sources a { nx := fun _ μ' => Φ .non μ', rt := Φ } (startG n_law_sources ds) μ (fun _ => Ξ) := by
  rintro ds μ Ξ Φ ⟨tp, m, e, name, names, rfl, ht, hm, ne, he, hn4, hn8, h⟩
  unfold B_law_sources
  walk_at "d"
  refine ⟨sz_of (by decide), fun p hp => ?_⟩
  have ptp := mu_ne ht hp
  have pe : e ≠ p := by
    obtain ⟨es, h1, _⟩ := he
    intro z
    subst z
    rw [hp] at h1; cases h1
  refine gNm_i ?_
  refine dSeq_to (fun γ' μ' => ∃ ev o5 o6, γ' = [some (.adr tp), some (.adr e), some (.str name), some (.bl true), some (.adr p), o5, o6, none, none, none] ∧ μ' = updM μ p (.lst (sL ev)) ∧ 0 < ev.length ∧ ev.length ≤ 17 ∧ ∀ x ∈ ev, IsSrc names x) ?_ fun U hU => ?_
  · rintro γ' μ' ⟨ev, o5, o6, rfl, rfl, e0, e17, hev⟩
    walk_at "d"
    refine ⟨sz_of (by decide), fun q hq => ?_⟩
    have qp : q ≠ p := fun z => by subst z; rw [updM_same] at hq; cases hq
    have qtp : q ≠ tp := fun z => by subst z; rw [updM_ne ptp, ht] at hq; cases hq
    refine gNm_i ?_
    refine dSeq_to (fun γ' μ' => ∃ fd o5 o6 o8 o9 m', γ' = [some (.adr tp), some (.adr e), some (.str name), some (.bl true), some (.adr p), o5, o6, some (.adr q), o8, o9] ∧ μ' = updM (updM (updM μ tp m') p (.lst (sL ev))) q (.lst (sL fd)) ∧ IsTape m' ∧ 1 ≤ fd.length ∧ fd.length ≤ 3 ∧ fd.Nodup ∧ ∀ x ∈ fd, IsSrc names x) ?_ fun V hV => ?_
    · rintro γ' μ' ⟨fd, o5, o6, o8, o9, m', rfl, rfl, hm', f1, f3, fn, hf⟩
      walk_at "d"
      refine frzE_l updM_same ?_
      refine ⟨updM μ tp m', fun b m0 hb => ?_, h fd m' f1 f3 fn hf hm'⟩
      have hq2 : updM (updM μ tp m') p (.lst (sL ev)) q = none := by
        rw [updM_ne qp, updM_ne qtp]; rw [updM_ne qp] at hq; exact hq
      rw [delM_updM hq2]
      have hb2 : b ≠ p := fun z => by subst z; rw [updM_ne (Ne.symm ptp), hp] at hb; cases hb
      rw [updM_ne hb2]; exact hb
    · have nrm : ∀ (μ : Mu) (m1 P Q : MO), updM (updM (updM μ p P) q Q) tp m1 = updM (updM (updM μ tp m1) p P) q Q := fun μ m1 P Q => by
        rw [updM_comm qtp, updM_comm (Ne.symm ptp)]
      walk_at "d"
      refine ⟨tp, m, 3, rfl, by rw [updM_ne (Ne.symm qtp), updM_ne ptp]; exact ht, hm, by omega, by omega, fun r m1 r0 r1 hm1 => ?_⟩
      rw [nrm]
      walk_at "d"
      refine ⟨1 + r, rfl, by omega, by omega, ?_⟩
      refine ⟨fun i γ' μ' => ∃ fd o5 o6 o8 o9 m', γ' = [some (.adr tp), some (.adr e), some (.str name), some (.bl true), some (.adr p), o5, o6, some (.adr q), o8, o9] ∧ μ' = updM (updM (updM μ tp m') p (.lst (sL ev))) q (.lst (sL fd)) ∧ IsTape m' ∧ (0 < i → 1 ≤ fd.length) ∧ fd.length ≤ i ∧ fd.Nodup ∧ ∀ x ∈ fd, IsSrc names x,
        ⟨[], o5, o6, none, none, m1, rfl, rfl, hm1, fun z => absurd z (Nat.lt_irrefl 0), Nat.le_refl 0, List.nodup_nil, fun x hx => by simp at hx⟩, fun _ _ _ _ => trivial, ?_, ?_⟩
      · rintro i d γ' μ' hd ⟨fd, o5, o6, o8, o9, m', rfl, rfl, hm', f1, f3, fn, hf⟩
        have hi : i < 4 := by
          have := (List.getElem?_eq_some_iff.mp hd).1
          simp only [rngD, List.length_map, List.length_range] at this
          omega
        walk_at "d"
        refine ⟨tp, m', .adr p, sL ev, rfl, by rw [updM_ne (Ne.symm qtp), updM_ne ptp, updM_same], hm', items_adr (by rw [updM_ne (Ne.symm qp), updM_same]), fun m2 _ => items_adr (by rw [updM_ne (Ne.symm ptp), updM_ne (Ne.symm qp), updM_same]), by rw [List.length_map]; omega, by rw [List.length_map]; omega, fun d m2 hd2 hm2 => ?_⟩
        obtain ⟨x, hx, rfl⟩ := List.mem_map.mp hd2
        rw [nrm, updM_updM]
        walk_at "d"
        refine oNotIn_strs (items_adr updM_same) ?_
        walk_at "d"
        refine ite_nd (fun w => ?_) fun w => ?_
        · walk_at "d"
          refine ⟨isLis_adr updM_same, ?_⟩
          walk_at "d"
          refine mAppend_i updM_same (sz_lt (by rw [List.length_map]; omega)) ⟨fd ++ [x], o5, o6, _, _, m2, rfl, ?_, hm2, fun _ => by simp, by simp; omega, ?_, ?_⟩
          · rw [updM_updM, sL_snoc]
          · exact List.nodup_append.mpr ⟨fn, by simp, fun y hy z hz e => by simp at hz; subst hz; subst e; exact w hy⟩
          · intro y hy
            rcases List.mem_append.mp hy with hy | hy
            · exact hf y hy
            · rw [List.mem_singleton.mp hy]; exact hev x hx
        · walk_at "d"
          exact ⟨fd, o5, o6, _, _, m2, rfl, rfl, hm2, fun _ => by cases fd with
            | nil => simp at w
            | cons y ys => simp, by omega, fn, hf⟩
      · rintro γ' μ' ⟨fd, o5, o6, o8, o9, m', rfl, rfl, hm', f1, f3, fn, hf⟩
        have hl : (rngD 0 (1 + r).toNat).length = (1 + r).toNat := by simp [rngD]
        rw [hl] at f1 f3
        exact hV _ _ ⟨fd, o5, o6, o8, o9, m', rfl, rfl, hm', f1 (by omega), by omega, fn, hf⟩
  · walk_at "d"
    refine ⟨sz_of (by decide), ?_⟩
    refine ⟨_, rfl, ?_⟩
    refine ⟨fun i γ' μ' => ∃ ev o5 o6, γ' = [some (.adr tp), some (.adr e), some (.str name), some (.bl true), some (.adr p), o5, o6, none, none, none] ∧ μ' = updM μ p (.lst (sL ev)) ∧ 0 < ev.length ∧ ev.length ≤ 1 + i * 4 ∧ ∀ x ∈ ev, IsSrc names x,
      ⟨["style"], none, none, rfl, rfl, by decide, by decide, fun x hx => .inl (List.mem_singleton.mp hx)⟩, fun _ _ _ _ => trivial, ?_, ?_⟩
    · rintro i d γ' μ' hd ⟨ev, o5, o6, rfl, rfl, e0, e1, hev⟩
      have hd : (rels.map D.str)[i]? = some d := hd
      rw [List.getElem?_map] at hd
      cases hr : rels[i]? with
      | none => rw [hr] at hd; cases hd
      | some rel =>
        rw [hr] at hd
        cases hd
        have hrel : rel ∈ rels := List.mem_of_getElem? hr
        have hi : i < 4 := (List.getElem?_eq_some_iff.mp hr).1
        walk_at "d"
        refine ent_get (by rw [updM_ne pe]; exact he) ?_
        refine ⟨_, rfl, ?_⟩
        refine ⟨fun j γ' μ' => ∃ ev' o6, γ' = [some (.adr tp), some (.adr e), some (.str name), some (.bl true), some (.adr p), some (.str rel), o6, none, none, none] ∧ μ' = updM μ p (.lst (sL ev')) ∧ 0 < ev'.length ∧ ev'.length ≤ ev.length + j ∧ ∀ x ∈ ev', IsSrc names x,
          ⟨ev, o6, rfl, rfl, e0, by omega, hev⟩, fun _ _ _ _ => trivial, ?_, ?_⟩
        · rintro j d γ' μ' hd ⟨ev', o6, rfl, rfl, e0', e1', hev'⟩
          rw [List.getElem?_map] at hd
          cases hn : names[j]? with
          | none => rw [hn] at hd; cases hd
          | some n =>
            rw [hn] at hd
            cases hd
            have hnm : n ∈ names := List.mem_of_getElem? hn
            have hj : j < names.length := (List.getElem?_eq_some_iff.mp hn).1
            obtain ⟨z1, z2, z3⟩ := src_len hn8 hrel hnm
            walk_at "d"
            refine ⟨isLis_adr updM_same, ?_⟩
            walk_at "d"
            refine oAdd_str (sz_of (by show rel.length + 1 ≤ _; omega)) ?_
            walk_at "d"
            refine oAdd_str (sz_of (by rw [z1]; omega)) ?_
            walk_at "d"
            refine mAppend_i updM_same (sz_lt (by rw [List.length_map]; omega)) ⟨ev' ++ [rel ++ "." ++ n], _, rfl, ?_, by simp, by simp; omega, ?_⟩
            · rw [updM_updM, sL_snoc]
            · intro y hy
              rcases List.mem_append.mp hy with hy | hy
              · exact hev' y hy
              · rw [List.mem_singleton.mp hy]; exact .inr ⟨rel, hrel, n, hnm, rfl⟩
        · rintro γ' μ' ⟨ev', o6, rfl, rfl, e0', e1', hev'⟩
          rw [List.length_map] at e1'
          exact ⟨ev', _, o6, rfl, rfl, e0', by omega, hev'⟩
    · rintro γ' μ' ⟨ev, o5, o6, rfl, rfl, e0, e1, hev⟩
      exact hU _ _ ⟨ev, o5, o6, rfl, rfl, e0, e1, hev⟩
theorem ok_law_sources {P : Program} {w : World} {K : PySem.W.Frag} {mg : Str → Option Value} {base : Heap} {a : Adr} (T : Txt K mg a) (G_law_in_time : FnD P w K mg base 2 a.f_law_in_time (w_law_in_time a)) (G_law_pick : FnD P w K mg base 1 a.f_law_pick (w_law_pick a)) (G_law_one : FnD P w K mg base 2 a.f_law_one (w_law_one a)) : FnD P w K mg base 3 a.f_law_sources (w_law_sources a) := by
  obtain ⟨fd, F⟩ := T.F_law_sources.ex
  exact fn_D F (F.binds (ps := ["tape", "engine", "name", "late"]) fun _ _ _ _ _ _ us hl => match us, hl with | [_, _, _, _], _ => rfl) sc_law_sources (fun ds μ Ξ Φ h => len_law_sources h) fun cdv A outer s H E hr => ⟨B_law_sources a, D_law_sources T G_law_in_time G_law_pick G_law_one cdv A outer s H E hr, fun ds μ Ξ Φ h => read_law_sources ds μ Ξ Φ h⟩

/-- is_name -/
abbrev n_is_name : List Str := ["word", "letter"]
theorem sc_is_name : FnScope n_is_name ["word"] (defScope s_is_name) := ⟨rfl, rfl, rfl, by decide +kernel, rfl, by decide +kernel, by decide +kernel⟩
def B_is_name (a : Adr) : TDS :=
  (dRet (dAndV (dChainV oLe oLe (dC (.int 1)) (dBi bLen (dCons (dVar 0) dNil)) (dC (.int 8))) (dBi bAll (dCons (dLc (dItS (dVar 0)) (cNm 1) dYes (dOp (oInS false) (dVar 1) (dC (.str "abcdefghijklmnopqrstuvwxyz"))) [1]) dNil))))
theorem D_is_name {P : Program} {w : World} {K : PySem.W.Frag} {mg : Str → Option Value} {base : Heap} {a : Adr} (T : Txt K mg a)  (cdv : Value) (A : Around) (outer : List PySem.Env) (s : Shared) (H : Hp) (E : XK) (hr : Room 0 (A.deeper (PyProof.Rows.envOfC "is_name" (defScope s_is_name) s.heap.objs.size a.f_is_name cdv))) :
    PSs (cxOf (L2.CX P w) P w K mg base n_is_name "is_name" (defScope s_is_name) a.f_is_name cdv A outer s H E) (defBody s_is_name) (tDS K (fun cls d _ H => E cls d H) (B_is_name a)) := by
  have tk : Takes (cxOf (L2.CX P w) P w K mg base n_is_name "is_name" (defScope s_is_name) a.f_is_name cdv A outer s H E) (fun cls d _ H => E cls d H) := takes_of rfl rfl rfl rfl
  exact (ss_one (s_ret (e_and (e_chain op_le od_le op_le od_le e_int (e_bi call_len bd_len T.z_len (a_cons (e_var 0) a_nil)) e_int) (e_one (e_bi (cr_all rfl) bd_all T.z_all (a_cons (e_lc (own := [("letter", 1)]) rfl sc_is_name.nd (ct_name 1) (i_str (e_var 0)) (blkOk_by (own := [("letter", 1)]) (N := n_is_name) (sc := defScope s_is_name) (by decide +kernel)) (fun _ _ _ _ _ => (pg_name (i := 1) sc_is_name.nd rfl (by first | exact .inl rfl | exact .inr rfl))) (fun _ _ _ _ _ => ts_nil) (fun _ _ _ _ _ => (e_cmp op_inSg od_inS (e_var 1) (e_gstrE T.c_LETTERS)))) a_nil))))))
/-- are_distinct -/
abbrev n_are_distinct : List Str := ["words", "word"]
theorem sc_are_distinct : FnScope n_are_distinct ["words"] (defScope s_are_distinct) := ⟨rfl, rfl, rfl, by decide +kernel, rfl, by decide +kernel, by decide +kernel⟩
def B_are_distinct (a : Adr) : TDS :=
  (dRet (dBi bAll (dCons (dLc (dIt (dVar 0)) (cNm 1) dYes (dOp (oEq false) (dBm isLis mCount (dVar 0) (dCons (dVar 1) dNil)) (dC (.int 1))) [1]) dNil)))
theorem D_are_distinct {P : Program} {w : World} {K : PySem.W.Frag} {mg : Str → Option Value} {base : Heap} {a : Adr} (T : Txt K mg a)  (cdv : Value) (A : Around) (outer : List PySem.Env) (s : Shared) (H : Hp) (E : XK) (hr : Room 0 (A.deeper (PyProof.Rows.envOfC "are_distinct" (defScope s_are_distinct) s.heap.objs.size a.f_are_distinct cdv))) :
    PSs (cxOf (L2.CX P w) P w K mg base n_are_distinct "are_distinct" (defScope s_are_distinct) a.f_are_distinct cdv A outer s H E) (defBody s_are_distinct) (tDS K (fun cls d _ H => E cls d H) (B_are_distinct a)) := by
  have tk : Takes (cxOf (L2.CX P w) P w K mg base n_are_distinct "are_distinct" (defScope s_are_distinct) a.f_are_distinct cdv A outer s H E) (fun cls d _ H => E cls d H) := takes_of rfl rfl rfl rfl
  exact (ss_one (s_ret (e_bi (cr_all rfl) bd_all T.z_all (a_cons (e_lc (own := [("word", 1)]) rfl sc_are_distinct.nd (ct_name 1) (i_seq (e_var 0)) (blkOk_by (own := [("word", 1)]) (N := n_are_distinct) (sc := defScope s_are_distinct) (by decide +kernel)) (fun _ _ _ _ _ => (pg_name (i := 1) sc_are_distinct.nd rfl (by first | exact .inl rfl | exact .inr rfl))) (fun _ _ _ _ _ => ts_nil) (fun _ _ _ _ _ => (e_cmp (op_eqA hr) od_eq (e_bm PySem.F.plainAttrs_list PySem.F.slot_list_count PySem.F.type_list_count mt_lcountS md_count (e_var 0) (a_cons (e_var 1) a_nil)) e_int))) a_nil))))
/-- are_names -/
abbrev n_are_names : List Str := ["words", "most", "word"]
theorem sc_are_names : FnScope n_are_names ["words", "most"] (defScope s_are_names) := ⟨rfl, rfl, rfl, by decide +kernel, rfl, by decide +kernel, by decide +kernel⟩
def B_are_names (a : Adr) : TDS :=
  (dRet (dAndV (dChainV oLe oLe (dC (.int 1)) (dBi bLen (dCons (dVar 0) dNil)) (dVar 1)) (dAndV (dCall (w_are_distinct a) (dCons (dVar 0) dNil)) (dBi bAll (dCons (dLc (dIt (dVar 0)) (cNm 2) dYes (dCall (w_is_name a) (dCons (dVar 2) dNil)) [2]) dNil)))))
theorem D_are_names {P : Program} {w : World} {K : PySem.W.Frag} {mg : Str → Option Value} {base : Heap} {a : Adr} (T : Txt K mg a) (G_are_distinct : FnD P w K mg base 1 a.f_are_distinct (w_are_distinct a)) (G_is_name : FnD P w K mg base 1 a.f_is_name (w_is_name a)) (cdv : Value) (A : Around) (outer : List PySem.Env) (s : Shared) (H : Hp) (E : XK) (hr : Room 1 (A.deeper (PyProof.Rows.envOfC "are_names" (defScope s_are_names) s.heap.objs.size a.f_are_names cdv))) :
    PSs (cxOf (L2.CX P w) P w K mg base n_are_names "are_names" (defScope s_are_names) a.f_are_names cdv A outer s H E) (defBody s_are_names) (tDS K (fun cls d _ H => E cls d H) (B_are_names a)) := by
  have tk : Takes (cxOf (L2.CX P w) P w K mg base n_are_names "are_names" (defScope s_are_names) a.f_are_names cdv A outer s H E) (fun cls d _ H => E cls d H) := takes_of rfl rfl rfl rfl
  exact (ss_one (s_ret (e_and (e_chain op_le od_le op_le od_le e_int (e_bi call_len bd_len T.z_len (a_cons (e_var 0) a_nil)) (e_var 1)) (e_and (e_call (cal_def G_are_distinct (hr.mono (by decide)) tk) T.g_are_distinct T.F_are_distinct.kp (a_cons (e_var 0) a_nil)) (e_one (e_bi (cr_all rfl) bd_all T.z_all (a_cons (e_lc (own := [("word", 2)]) rfl sc_are_names.nd (ct_name 2) (i_seq (e_var 0)) (blkOk_by (own := [("word", 2)]) (N := n_are_names) (sc := defScope s_are_names) (by decide +kernel)) (fun _ _ _ _ _ => (pg_name (i := 2) sc_are_names.nd rfl (by first | exact .inl rfl | exact .inr rfl))) (fun _ _ _ _ _ => ts_nil) (fun _ _ _ _ _ => (e_call (cal_def G_is_name (hr.mono (by decide)) takes0) T.g_is_name T.F_is_name.kp (a_cons (e_var 2) a_nil)))) a_nil)))))))
/-- split_source -/
abbrev n_split_source : List Str := ["source", "parts"]
theorem sc_split_source : FnScope n_split_source ["source"] (defScope s_split_source) := ⟨rfl, rfl, rfl, by decide +kernel, rfl, by decide +kernel, by decide +kernel⟩
def B_split_source (a : Adr) : TDS :=
  (dSeq (dAsg (dBm isStr mPart (dVar 0) (dCons (dC (.str ".")) dNil)) (gNm 1)) (dRet (dTup (dCons (dOp oIx (dVar 1) (dC (.int 0))) (dCons (dOp oIx (dVar 1) (dC (.int 2))) dNil)))))
theorem D_split_source {P : Program} {w : World} {K : PySem.W.Frag} {mg : Str → Option Value} {base : Heap} {a : Adr} (T : Txt K mg a)  (cdv : Value) (A : Around) (outer : List PySem.Env) (s : Shared) (H : Hp) (E : XK) (hr : Room 0 (A.deeper (PyProof.Rows.envOfC "split_source" (defScope s_split_source) s.heap.objs.size a.f_split_source cdv))) :
    PSs (cxOf (L2.CX P w) P w K mg base n_split_source "split_source" (defScope s_split_source) a.f_split_source cdv A outer s H E) (defBody s_split_source) (tDS K (fun cls d _ H => E cls d H) (B_split_source a)) := by
  have tk : Takes (cxOf (L2.CX P w) P w K mg base n_split_source "split_source" (defScope s_split_source) a.f_split_source cdv A outer s H E) (fun cls d _ H => E cls d H) := takes_of rfl rfl rfl rfl
  exact (ss_cons (s_set 1 sc_split_source.nd (e_bm PySem.F.plainAttrs_str PySem.F.slot_str_partition PySem.F.type_str_partition mt_partition md_partition (e_var 0) (a_cons e_str a_nil))) (ss_one (s_ret (e_tup (a_cons (e_ix (e_var 1) e_int) (a_cons (e_ix (e_var 1) e_int) a_nil))))))
theorem len_is_name {a : Adr} {ds μ Ξ Φ} (h : w_is_name a ds μ Ξ Φ) : ds.length = 1 := by obtain ⟨_, rfl, _⟩ := h; rfl
theorem read_is_name {a : Adr} : ∀ ds μ Ξ Φ, w_is_name a ds μ Ξ Φ → B_is_name a { nx := fun _ μ' => Φ .non μ', rt := Φ } (startG n_is_name ds) μ (fun _ => Ξ) := by
  rintro ds μ Ξ Φ ⟨x, rfl, hz, h⟩
  unfold B_is_name
  walk_at "d"
  refine bLen_str (sz_of hz) ?_
  walk_at "d"
  have e1 : decide ((1 : Int) ≤ (x.length : Int)) = decide (1 ≤ x.length) := by simp; omega
  have e2 : decide ((x.length : Int) ≤ 8) = decide (x.length ≤ 8) := by simp; omega
  unfold nameB at h
  rw [e1]
  cases d1 : decide (1 ≤ x.length) with
  | false =>
    rw [d1] at h
    walk_at "d"
    exact h
  | true =>
    rw [d1] at h
    walk_at "d"
    rw [e2]
    cases d2 : decide (x.length ≤ 8) with
    | false =>
      rw [d2] at h
      walk_at "d"
      exact h
    | true =>
      rw [d2] at h
      walk_at "d"
      refine ⟨x, rfl, ?_⟩
      refine lc_pure (fun c : Nat => D.str ⟨#[c]⟩) (fun c => D.bl (decide (c ∈ letters.cps.toList))) (sz_of hz) trivial (fun c _ U hU => ?_) ?_
      · walk_at "d"
        exact ⟨c, letters, rfl, rfl, hU⟩
      · walk_at "d"
        have e3 : x.cps.toList.map (fun c => D.bl (decide (c ∈ letters.cps.toList))) = (x.cps.toList.map fun c => decide (c ∈ letters.cps.toList)).map D.bl := by rw [List.map_map]; rfl
        rw [e3]
        refine bAll_bls ?_
        rw [List.all_map]
        exact h
theorem ok_is_name {P : Program} {w : World} {K : PySem.W.Frag} {mg : Str → Option Value} {base : Heap} {a : Adr} (T : Txt K mg a)  : FnD P w K mg base 1 a.f_is_name (w_is_name a) := by
  obtain ⟨fd, F⟩ := T.F_is_name.ex
  exact fn_D F (F.binds (ps := ["word"]) fun _ _ _ _ _ _ us hl => match us, hl with | [_], _ => rfl) sc_is_name (fun ds μ Ξ Φ h => len_is_name h) fun cdv A outer s H E hr => ⟨B_is_name a, D_is_name T  cdv A outer s H E hr, fun ds μ Ξ Φ h => read_is_name ds μ Ξ Φ h⟩
theorem cnt_nd (xs : List Str) : (xs.map fun x => decide ((xs.count x : Int) = 1)).all id = decide xs.Nodup := by
  rw [List.all_map]
  by_cases h : xs.Nodup
  · rw [decide_eq_true h]
    refine List.all_eq_true.mpr fun x hx => ?_
    have := h.count (a := x)
    rw [if_pos hx] at this
    simp [this]
  · rw [decide_eq_false h]
    refine Bool.eq_false_iff.mpr fun z => h (List.nodup_iff_count.mpr fun x => ?_)
    by_cases hx : x ∈ xs
    · have := List.all_eq_true.mp z x hx
      simp at this
      omega
    · rw [List.count_eq_zero_of_not_mem hx]; omega
theorem len_are_distinct {a : Adr} {ds μ Ξ Φ} (h : w_are_distinct a ds μ Ξ Φ) : ds.length = 1 := by obtain ⟨_, _, rfl, _⟩ := h; rfl
theorem items_of {μ : Mu} {d : D} {xs : List D} (h : lisD μ d = some xs) : itemsD μ d = some xs := by
  cases d <;> first | exact h | cases h
theorem grd_of {μ : Mu} {d : D} {xs : List D} (h : lisD μ d = some xs) : grdD d xs μ := by
  cases d with
  | adr a => exact lisM_inv h
  | _ => exact trivial
theorem read_are_distinct {a : Adr} : ∀ ds μ Ξ Φ, w_are_distinct a ds μ Ξ Φ → B_are_distinct a { nx := fun _ μ' => Φ .non μ', rt := Φ } (startG n_are_distinct ds) μ (fun _ => Ξ) := by
  rintro ds μ Ξ Φ ⟨d, xs, rfl, hd, hz, h⟩
  unfold B_are_distinct
  walk_at "d"
  refine ⟨_, items_of hd, ?_⟩
  refine lc_pure D.str (fun x => D.bl (decide ((xs.count x : Int) = 1))) (sz_of hz) (grd_of hd) (fun x _ U hU => ?_) ?_
  · walk_at "d"
    refine ⟨⟨_, hd⟩, ?_⟩
    walk_at "d"
    refine ⟨xs, x, hd, rfl, ?_⟩
    walk_at "d"
    exact hU
  · walk_at "d"
    have e3 : xs.map (fun x => D.bl (decide ((xs.count x : Int) = 1))) = (xs.map fun x => decide ((xs.count x : Int) = 1)).map D.bl := by rw [List.map_map]; rfl
    rw [e3]
    refine bAll_bls ?_
    rw [cnt_nd]
    exact h
theorem ok_are_distinct {P : Program} {w : World} {K : PySem.W.Frag} {mg : Str → Option Value} {base : Heap} {a : Adr} (T : Txt K mg a)  : FnD P w K mg base 1 a.f_are_distinct (w_are_distinct a) := by
  obtain ⟨fd, F⟩ := T.F_are_distinct.ex
  exact fn_D F (F.binds (ps := ["words"]) fun _ _ _ _ _ _ us hl => match us, hl with | [_], _ => rfl) sc_are_distinct (fun ds μ Ξ Φ h => len_are_distinct h) fun cdv A outer s H E hr => ⟨B_are_distinct a, D_are_distinct T  cdv A outer s H E hr, fun ds μ Ξ Φ h => read_are_distinct ds μ Ξ Φ h⟩
theorem len_are_names {a : Adr} {ds μ Ξ Φ} (h : w_are_names a ds μ Ξ Φ) : ds.length = 2 := by obtain ⟨_, _, _, rfl, _⟩ := h; rfl
theorem bLen_lis {μ : Mu} {x : D} {xs : List D} {Φ : KD} (h1 : lisD μ x = some xs) (h : Φ (.int xs.length) μ) : bLen [x] μ Φ := by
  refine ⟨x, xs.length, rfl, ?_, h⟩
  have h2 := items_of h1
  cases x with
  | str z => cases h1
  | _ => exact congrArg (Option.map List.length) h2
theorem read_are_names {a : Adr} : ∀ ds μ Ξ Φ, w_are_names a ds μ Ξ Φ → B_are_names a { nx := fun _ μ' => Φ .non μ', rt := Φ } (startG n_are_names ds) μ (fun _ => Ξ) := by
  rintro ds μ Ξ Φ ⟨d, xs, n, rfl, hd, hz, hx, h⟩
  unfold B_are_names
  walk_at "d"
  refine bLen_lis hd ?_
  walk_at "d"
  rw [List.length_map]
  unfold namesB at h
  cases d1 : decide (1 ≤ (xs.length : Int)) with
  | false =>
    rw [d1] at h
    walk_at "d"
    exact h
  | true =>
    rw [d1] at h
    walk_at "d"
    cases d2 : decide ((xs.length : Int) ≤ n) with
    | false =>
      rw [d2] at h
      walk_at "d"
      exact h
    | true =>
      rw [d2] at h
      walk_at "d"
      refine ⟨d, xs, rfl, hd, hz, ?_⟩
      walk_at "d"
      cases d3 : decide xs.Nodup with
      | false =>
        rw [d3] at h
        walk_at "d"
        exact h
      | true =>
        rw [d3] at h
        walk_at "d"
        refine ⟨_, items_of hd, ?_⟩
        refine lc_pure D.str (fun x => D.bl (nameB x)) (sz_of hz) (grd_of hd) (fun x hm U hU => ?_) ?_
        · walk_at "d"
          exact ⟨x, rfl, hx x hm, hU⟩
        · walk_at "d"
          have e3 : xs.map (fun x => D.bl (nameB x)) = (xs.map nameB).map D.bl := by rw [List.map_map]; rfl
          rw [e3]
          refine bAll_bls ?_
          rw [List.all_map]
          exact h
theorem ok_are_names {P : Program} {w : World} {K : PySem.W.Frag} {mg : Str → Option Value} {base : Heap} {a : Adr} (T : Txt K mg a) (G_are_distinct : FnD P w K mg base 1 a.f_are_distinct (w_are_distinct a)) (G_is_name : FnD P w K mg base 1 a.f_is_name (w_is_name a)) : FnD P w K mg base 2 a.f_are_names (w_are_names a) := by
  obtain ⟨fd, F⟩ := T.F_are_names.ex
  exact fn_D F (F.binds (ps := ["words", "most"]) fun _ _ _ _ _ _ us hl => match us, hl with | [_, _], _ => rfl) sc_are_names (fun ds μ Ξ Φ h => len_are_names h) fun cdv A outer s H E hr => ⟨B_are_names a, D_are_names T G_are_distinct G_is_name cdv A outer s H E hr, fun ds μ Ξ Φ h => read_are_names ds μ Ξ Φ h⟩
theorem len_split_source {a : Adr} {ds μ Ξ Φ} (h : w_split_source a ds μ Ξ Φ) : ds.length = 1 := by obtain ⟨_, rfl, _⟩ := h; rfl
theorem read_split_source {a : Adr} : ∀ ds μ Ξ Φ, w_split_source a ds μ Ξ Φ → B_split_source a { nx := fun _ μ' => Φ .non μ', rt := Φ } (startG n_split_source ds) μ (fun _ => Ξ) := by
  rintro ds μ Ξ Φ ⟨x, rfl, hz, h⟩
  unfold B_split_source
  walk_at "d"
  refine ⟨isStr_i, ?_⟩
  walk_at "d"
  refine ⟨x, ".", rfl, rfl, rfl, sz_of hz, ?_⟩
  walk_at "d"
  refine oIx_items rfl rfl ?_
  walk_at "d"
  refine oIx_items rfl rfl ?_
  walk_at "d"
  exact ⟨sz_of (by simp), h⟩
theorem ok_split_source {P : Program} {w : World} {K : PySem.W.Frag} {mg : Str → Option Value} {base : Heap} {a : Adr} (T : Txt K mg a)  : FnD P w K mg base 1 a.f_split_source (w_split_source a) := by
  obtain ⟨fd, F⟩ := T.F_split_source.ex
  exact fn_D F (F.binds (ps := ["source"]) fun _ _ _ _ _ _ us hl => match us, hl with | [_], _ => rfl) sc_split_source (fun ds μ Ξ Φ h => len_split_source h) fun cdv A outer s H E hr => ⟨B_split_source a, D_split_source T  cdv A outer s H E hr, fun ds μ Ξ Φ h => read_split_source ds μ Ξ Φ h⟩

/-- Engine.checked -/
abbrev n_Engine_checked : List Str := ["self", "sources", "source", "relation", "name", "known"]
theorem sc_Engine_checked : FnScope n_Engine_checked ["self", "sources"] (defScope s_Engine_checked) := ⟨rfl, rfl, rfl, by decide +kernel, rfl, by decide +kernel, by decide +kernel⟩
def B_Engine_checked (a : Adr) : TDS :=
  (dSeq (dIf (dOr (dNot (dTest (dChainV oLe oLe (dC (.int 1)) (dBi bLen (dCons (dVar 1) dNil)) (dC (.int 4))))) (dNot (dTru (dCall (w_are_distinct a) (dCons (dVar 1) dNil))))) (dRaise a.C_BadEngine) dNext) (dSeq (dFor (dIt (dVar 1)) (gNm 2) (dSeq (dAsg (dCall (w_split_source a) (dCons (dVar 2) dNil)) (gTp 2 (gCn (gNm 3) (gCn (gNm 4) gNl)))) (dSeq (dAsg (dAndV (dOp (oIn false) (dVar 3) (dC (.ktup (k_RELATIONS.map D.str)))) (dAndV (dOp (oIn false) (dVar 4) (dFld a.C_Engine "attributes" (dVar 0))) (dOp (oEq false) (dVar 2) (dOp oAdd (dOp oAdd (dVar 3) (dC (.str "."))) (dVar 4))))) (gNm 5)) (dIf (dAnd (dTest (dOp (oEq true) (dVar 2) (dC (.str "style")))) (dNot (dTru (dVar 5)))) (dRaise a.C_BadEngine) dNext)))) (dRet (dBi bTuple (dCons (dVar 1) dNil)))))
theorem D_Engine_checked {P : Program} {w : World} {K : PySem.W.Frag} {mg : Str → Option Value} {base : Heap} {a : Adr} (T : Txt K mg a) (G_are_distinct : FnD P w K mg base 1 a.f_are_distinct (w_are_distinct a)) (G_split_source : FnD P w K mg base 1 a.f_split_source (w_split_source a)) (cdv : Value) (A : Around) (outer : List PySem.Env) (s : Shared) (H : Hp) (E : XK) (hr : Room 1 (A.deeper (PyProof.Rows.envOfC "Engine.checked" (defScope s_Engine_checked) s.heap.objs.size a.f_Engine_checked cdv))) :
    PSs (cxOf (L2.CX P w) P w K mg base n_Engine_checked "Engine.checked" (defScope s_Engine_checked) a.f_Engine_checked cdv A outer s H E) (defBody s_Engine_checked) (tDS K (fun cls d _ H => E cls d H) (B_Engine_checked a)) := by
  have tk : Takes (cxOf (L2.CX P w) P w K mg base n_Engine_checked "Engine.checked" (defScope s_Engine_checked) a.f_Engine_checked cdv A outer s H E) (fun cls d _ H => E cls d H) := takes_of rfl rfl rfl rfl
  exact (ss_cons (s_if (PW.pt (w_or (t_not (t_chain op_le od_le op_le od_le e_int (e_bi call_len bd_len T.z_len (a_cons (e_var 1) a_nil)) e_int)) (w_or1 (t_not (t_tru (e_call (cal_def G_are_distinct (hr.mono (by decide)) tk) T.g_are_distinct T.F_are_distinct.kp (a_cons (e_var 1) a_nil))))))) (ss_one (s_raise rfl tk T.g_BadEngine T.x_BadEngine)) ss_nil) (ss_cons (s_for (passes_of rfl) rfl (i_seq (e_var 1)) (g_name 2 sc_Engine_checked.nd) (ss_cons (s_asg (e_call (cal_def G_split_source (hr.mono (by decide)) tk) T.g_split_source T.F_split_source.kp (a_cons (e_var 2) a_nil)) (g_tup rfl (gs_cons (g_name 3 sc_Engine_checked.nd) (gs_cons (g_name 4 sc_Engine_checked.nd) gs_nil)))) (ss_cons (s_set 5 sc_Engine_checked.nd (e_and (e_cmp op_in_seq od_in (e_var 3) (e_gtup T.c_RELATIONS T.k_RELATIONS)) (e_and (e_cmp op_in_seq od_in (e_var 4) (e_fld T.o_Engine.cl T.n_Engine_attributes (e_var 0) (by rfl))) (e_one (e_cmp (op_eqA hr) od_eq (e_var 2) (e_bin op_addA od_add (e_bin op_addA od_add (e_var 3) e_str) (e_var 4))))))) (ss_one (s_if (PW.pt (w_and (t_cmp (op_neA hr) od_ne (e_var 2) e_str) (w_and1 (t_not (t_tru (e_var 5)))))) (ss_one (s_raise rfl tk T.g_BadEngine T.x_BadEngine)) ss_nil))))) (ss_one (s_ret (e_bt call_tuple_of bd_tuple T.z_tuple (a_cons (e_var 1) a_nil))))))
theorem split_first : ∀ {l : List Nat} {c : Nat}, c ∈ l → ∃ l1 l2, l = l1 ++ c :: l2 ∧ c ∉ l1
  | [], c, h => by simp at h
  | d :: l, c, h => by
    by_cases e : d = c
    · exact ⟨[], l, by rw [e]; rfl, by simp⟩
    · rcases List.mem_cons.mp h with h | h
      · exact absurd h.symm e
      · obtain ⟨l1, l2, e1, e2⟩ := split_first h
        exact ⟨d :: l1, l2, by rw [e1]; rfl, fun z => (List.mem_cons.mp z).elim (fun z => e z.symm) e2⟩
theorem part_len (x : Str) : (Txt.partition x ".").1.length ≤ x.length ∧ (Txt.partition x ".").2.2.length ≤ x.length := by
  by_cases h : 46 ∈ TL.tl x
  · obtain ⟨l1, l2, e, hn⟩ := split_first h
    have ex : x = (⟨l1.toArray⟩ : Str) ++ "." ++ (⟨l2.toArray⟩ : Str) := by
      have : TL.tl x = TL.tl ((⟨l1.toArray⟩ : Str) ++ "." ++ (⟨l2.toArray⟩ : Str)) := by
        rw [TL.tl_append, TL.tl_append, e, List.append_assoc]; rfl
      cases x with
      | mk c => exact congrArg Str.mk (Array.toList_inj.mp this)
    rw [ex, TL.partition_app (s := 46) (S := []) rfl hn, len_app, len_app]
    exact ⟨by show (⟨l1.toArray⟩ : Str).length ≤ _; omega, by show (⟨l2.toArray⟩ : Str).length ≤ _; omega⟩
  · rw [TL.partition_none (s := 46) (S := []) rfl h]
    exact ⟨Nat.le_refl _, Nat.zero_le _⟩
theorem len_Engine_checked {a : Adr} {ds μ Ξ Φ} (h : w_Engine_checked a ds μ Ξ Φ) : ds.length = 2 := by obtain ⟨_, _, _, _, _, rfl, _⟩ := h; rfl
theorem read_Engine_checked {a : Adr} : ∀ ds μ Ξ Φ, w_Engine_checked a ds μ Ξ Φ → B_Engine_checked a { nx := fun _ μ' => Φ .non μ', rt := Φ } (startG n_Engine_checked ds) μ (fun _ => Ξ) := by
  rintro ds μ Ξ Φ ⟨sd, names, fs, xs, d, rfl, hs, hf, hd, hz, hx, hgood, hbad⟩
  unfold B_Engine_checked
  refine dSeq_to (fun γ' μ' => γ' = startG n_Engine_checked [sd, d] ∧ μ' = μ ∧ 1 ≤ xs.length ∧ xs.length ≤ 4 ∧ xs.Nodup) ?_ fun U hU => ?_
  · rintro γ' μ' ⟨rfl, rfl, h1, h4, hn⟩
    have e0 : checkedB names xs = xs.all (srcB names) := by unfold checkedB; simp [h1, h4, hn]
    rw [e0] at hgood hbad
    refine dSeq_i ?_
    walk_at "d"
    refine ⟨_, items_of hd, ?_⟩
    refine ⟨fun i γ' μ'' => (∃ o2 o3 o4 o5, γ' = [some sd, some d, o2, o3, o4, o5]) ∧ μ'' = μ' ∧ (xs.take i).all (srcB names) = true, ⟨⟨none, none, none, none, rfl⟩, rfl, by simp⟩, fun _ _ _ h => h.2.1 ▸ grd_of hd, ?_, ?_⟩
    · rintro i dd γ' μ'' hdd ⟨⟨o2, o3, o4, o5, rfl⟩, rfl, hall⟩
      rw [List.getElem?_map] at hdd
      cases hxi : xs[i]? with
      | none => rw [hxi] at hdd; cases hdd
      | some x =>
        rw [hxi] at hdd
        cases hdd
        have hm : x ∈ xs := List.mem_of_getElem? hxi
        have e1 : (xs.take (i + 1)).all (srcB names) = srcB names x := by rw [List.take_succ, hxi, List.all_append, hall]; simp
        walk_at "d"
        refine ⟨x, rfl, Nat.le_trans (hx x hm) (by decide), ?_⟩
        obtain ⟨pl1, pl2⟩ := part_len x
        have hx100 := hx x hm
        show gTp 2 _ _ _ _ _ _
        walk_at "d"
        refine oIn_strs (ys := k_RELATIONS) rfl ?_
        have nx : srcB names x = true → (xs.take (i + 1)).all (srcB names) = true := fun z => e1.trans z
        have rs : srcB names x = false → xs.all (srcB names) = false := fun z => Bool.eq_false_iff.mpr fun w => by rw [List.all_eq_true.mp w x hm] at z; cases z
        cases d1 : decide ((Txt.partition x ".").1 ∈ k_RELATIONS) with
        | false =>
          have hk : relB names x = false := by unfold relB; rw [d1]; rfl
          walk_at "d"
          refine ite_nd (fun q => ?_) fun q => ?_
          · walk_at "d"
            exact hbad (rs (by unfold srcB; rw [hk, decide_eq_false q]; rfl))
          · walk_at "d"
            exact ⟨⟨_, _, _, _, rfl⟩, rfl, nx (by unfold srcB; rw [decide_eq_true q]; rfl)⟩
        | true =>
          walk_at "d"
          refine ⟨fs, _, hs, hf, ?_⟩
          refine oIn_strs rfl ?_
          cases d2 : decide ((Txt.partition x ".").2.2 ∈ names) with
          | false =>
            have hk : relB names x = false := by unfold relB; rw [d1, d2]; rfl
            walk_at "d"
            refine ite_nd (fun q => ?_) fun q => ?_
            · walk_at "d"
              exact hbad (rs (by unfold srcB; rw [hk, decide_eq_false q]; rfl))
            · walk_at "d"
              exact ⟨⟨_, _, _, _, rfl⟩, rfl, nx (by unfold srcB; rw [decide_eq_true q]; rfl)⟩
          | true =>
            walk_at "d"
            have z1 : ((Txt.partition x ".").1 ++ "." : Str).length = (Txt.partition x ".").1.length + 1 := len_app _ _
            refine oAdd_str (sz_of (by show _ + 1 ≤ _; omega)) ?_
            walk_at "d"
            refine oAdd_str (sz_of (by rw [z1]; omega)) ?_
            walk_at "d"
            have hk : relB names x = decide (x = (Txt.partition x ".").1 ++ "." ++ (Txt.partition x ".").2.2) := by unfold relB; rw [d1, d2]; rfl
            refine ite_nd (fun q => ?_) fun q => ?_
            · walk_at "d"
              cases d3 : decide (x = (Txt.partition x ".").1 ++ "." ++ (Txt.partition x ".").2.2) with
              | false =>
                walk_at "d"
                exact hbad (rs (by unfold srcB; rw [hk, d3, decide_eq_false q]; rfl))
              | true =>
                walk_at "d"
                exact ⟨⟨_, _, _, _, rfl⟩, rfl, nx (by unfold srcB; rw [hk, d3]; simp)⟩
            · walk_at "d"
              exact ⟨⟨_, _, _, _, rfl⟩, rfl, nx (by unfold srcB; rw [decide_eq_true q]; rfl)⟩
    · rintro γ' μ'' ⟨⟨o2, o3, o4, o5, rfl⟩, rfl, hall⟩
      have e2 : xs.take (sL xs).length = xs := by rw [List.length_map]; exact List.take_of_length_le (Nat.le_refl _)
      rw [e2] at hall
      walk_at "d"
      refine bTuple_lis hd ?_
      exact hgood hall
  · walk_at "d"
    refine bLen_lis hd ?_
    walk_at "d"
    rw [List.length_map]
    have c1 : decide ((1 : Int) ≤ (xs.length : Int)) = decide (1 ≤ xs.length) := by simp; omega
    have c2 : decide ((xs.length : Int) ≤ 4) = decide (xs.length ≤ 4) := by simp; omega
    unfold checkedB at hbad
    rw [c1]
    cases d1 : decide (1 ≤ xs.length) with
    | false =>
      rw [d1] at hbad
      walk_at "d"
      exact hbad rfl
    | true =>
      rw [d1] at hbad
      walk_at "d"
      rw [c2]
      cases d2 : decide (xs.length ≤ 4) with
      | false =>
        rw [d2] at hbad
        walk_at "d"
        exact hbad rfl
      | true =>
        rw [d2] at hbad
        walk_at "d"
        refine ⟨d, xs, rfl, hd, hz, ?_⟩
        walk_at "d"
        cases d3 : decide xs.Nodup with
        | false =>
          rw [d3] at hbad
          walk_at "d"
          exact hbad rfl
        | true =>
          walk_at "d"
          exact hU _ _ ⟨rfl, rfl, of_decide_eq_true d1, of_decide_eq_true d2, of_decide_eq_true d3⟩
theorem ok_Engine_checked {P : Program} {w : World} {K : PySem.W.Frag} {mg : Str → Option Value} {base : Heap} {a : Adr} (T : Txt K mg a) (G_are_distinct : FnD P w K mg base 1 a.f_are_distinct (w_are_distinct a)) (G_split_source : FnD P w K mg base 1 a.f_split_source (w_split_source a)) : FnD P w K mg base 2 a.f_Engine_checked (w_Engine_checked a) := by
  obtain ⟨fd, F⟩ := T.F_Engine_checked.ex
  exact fn_D F (F.binds (ps := ["self", "sources"]) fun _ _ _ _ _ _ us hl => match us, hl with | [_, _], _ => rfl) sc_Engine_checked (fun ds μ Ξ Φ h => len_Engine_checked h) fun cdv A outer s H E hr => ⟨B_Engine_checked a, D_Engine_checked T G_are_distinct G_split_source cdv A outer s H E hr, fun ds μ Ξ Φ h => read_Engine_checked ds μ Ξ Φ h⟩

/-- Engine.__init__ -/
abbrev n_Engine_d_init : List Str := ["self", "kinds", "passes", "sources", "direction", "names", "word", "kind", "name"]
theorem sc_Engine_d_init : FnScope n_Engine_d_init ["self", "kinds", "passes", "sources"] (defScope s_Engine_d_init) := ⟨rfl, rfl, rfl, by decide +kernel, rfl, by decide +kernel, by decide +kernel⟩
def B_Engine_d_init (a : Adr) : TDS :=
  (dSeq (dSFld a.C_Engine "kinds" (dVar 0) (dBi bList (dCons (dVar 1) dNil))) (dSeq (dSFld a.C_Engine "passes" (dVar 0) (dLc (dIt (dVar 2)) (cTp [4, 5]) dYes (dTup (dCons (dVar 4) (dCons (dBi bTupleF (dCons (dVar 5) dNil)) dNil))) [4, 5])) (dSeq (dSFld a.C_Engine "attributes" (dVar 0) (dLc2 (dIt (dFld a.C_Engine "passes" (dVar 0))) (cTp [4, 5]) dYes (dIt (dVar 5)) (cNm 8) dYes (dVar 8) [4, 5, 8] [8])) (dSeq (dIf (dOr (dNot (dTru (dCall (w_are_names a) (dCons (dFld a.C_Engine "kinds" (dVar 0)) (dCons (dC (.int 3)) dNil))))) (dOr (dNot (dTest (dChainV oLe oLe (dC (.int 1)) (dBi bLen (dCons (dFld a.C_Engine "passes" (dVar 0)) dNil)) (dC (.int 3))))) (dNot (dTru (dCall (w_are_names a) (dCons (dFld a.C_Engine "attributes" (dVar 0)) (dCons (dC (.int 4)) dNil))))))) (dRaise a.C_BadEngine) dNext) (dSeq (dFor (dIt (dFld a.C_Engine "passes" (dVar 0))) (gTp 2 (gCn (gNm 4) (gCn (gNm 5) gNl))) (dIf (dOr (dTest (dOp (oIn true) (dVar 4) (dTup (dCons (dC (.str "down")) (dCons (dC (.str "up")) dNil))))) (dTest (dOp (oEq false) (dBi bLen (dCons (dVar 5) dNil)) (dC (.int 0))))) (dRaise a.C_BadEngine) dNext)) (dSeq (dFor (dIt (dOp oAdd (dC (.ktup (k_WORDS.map D.str))) (dTup (dCons (dC (.str "fence")) dNil)))) (gNm 6) (dIf (dTest (dOp (oIn false) (dVar 6) (dFld a.C_Engine "attributes" (dVar 0)))) (dRaise a.C_BadEngine) dNext)) (dSeq (dSFld a.C_Engine "table" (dVar 0) dNewT) (dSeq (dIf (dTest (dOp (oEq true) (dBi bLenDk (dCons (dVar 3) dNil)) (dBi bLen (dCons (dFld a.C_Engine "kinds" (dVar 0)) dNil)))) (dRaise a.C_BadEngine) dNext) (dGh (dFor (dIt (dFld a.C_Engine "kinds" (dVar 0))) (gNm 7) (dSeq (dIf (dOr (dTest (dOp (oInDct true) (dVar 7) (dVar 3))) (dTest (dOp (oEq true) (dBi bLenDk (dCons (dOp oDGet (dVar 3) (dVar 7)) dNil)) (dBi bLen (dCons (dFld a.C_Engine "attributes" (dVar 0)) dNil))))) (dRaise a.C_BadEngine) dNext) (dFor (dIt (dFld a.C_Engine "attributes" (dVar 0))) (gNm 8) (dSeq (dIf (dTest (dOp (oInDct true) (dVar 8) (dOp oDGet (dVar 3) (dVar 7)))) (dRaise a.C_BadEngine) dNext) (dAsg (dMeth a.C_Engine "checked" (w_Engine_checked a) (dVar 0) (dCons (dBi bList (dCons (dOp oDGet (dOp oDGet (dVar 3) (dVar 7)) (dVar 8)) dNil)) dNil)) (gDx (dFld a.C_Engine "table" (dVar 0)) (dTup (dCons (dVar 7) (dCons (dVar 8) dNil))))))))))))))))))
theorem D_Engine_d_init {P : Program} {w : World} {K : PySem.W.Frag} {mg : Str → Option Value} {base : Heap} {a : Adr} (T : Txt K mg a) (G_are_names : FnD P w K mg base 2 a.f_are_names (w_are_names a)) (G_Engine_checked : FnD P w K mg base 2 a.f_Engine_checked (w_Engine_checked a)) (cdv : Value) (A : Around) (outer : List PySem.Env) (s : Shared) (H : Hp) (E : XK) (hr : Room 2 (A.deeper (PyProof.Rows.envOfC "Engine.__init__" (defScope s_Engine_d_init) s.heap.objs.size a.f_Engine_d_init cdv))) :
    PSs (cxOf (L2.CX P w) P w K mg base n_Engine_d_init "Engine.__init__" (defScope s_Engine_d_init) a.f_Engine_d_init cdv A outer s H E) (defBody s_Engine_d_init) (tDS K (fun cls d _ H => E cls d H) (B_Engine_d_init a)) := by
  have tk : Takes (cxOf (L2.CX P w) P w K mg base n_Engine_d_init "Engine.__init__" (defScope s_Engine_d_init) a.f_Engine_d_init cdv A outer s H E) (fun cls d _ H => E cls d H) := takes_of rfl rfl rfl rfl
  exact (ss_cons (s_fld T.o_Engine.cl T.n_Engine_kinds (e_var 0) (e_bt call_list_of bd_list T.z_list (a_cons (e_var 1) a_nil))) (ss_cons (s_fld T.o_Engine.cl T.n_Engine_passes (e_var 0) (e_lc (own := [("direction", 4), ("names", 5)]) rfl sc_Engine_d_init.nd (ct_tup [4, 5]) (i_seq (e_var 2)) (blkOk_by (own := [("direction", 4), ("names", 5)]) (N := n_Engine_d_init) (sc := defScope s_Engine_d_init) (by decide +kernel)) (fun _ _ _ _ _ => (pg_tup rfl (pgs_cons (pg_name (i := 4) sc_Engine_d_init.nd rfl (by first | exact .inl rfl | exact .inr rfl)) (pgs_cons (pg_name (i := 5) sc_Engine_d_init.nd rfl (by first | exact .inl rfl | exact .inr rfl)) pgs_nil)))) (fun _ _ _ _ _ => ts_nil) (fun _ _ _ _ _ => (e_tup (a_cons (e_var 4) (a_cons (e_bt call_tuple_fz bd_tupleF T.z_tuple (a_cons (e_var 5) a_nil)) a_nil)))))) (ss_cons (s_fld T.o_Engine.cl T.n_Engine_attributes (e_var 0) (e_lc2 (own := [("direction", 4), ("names", 5), ("name", 8)]) (vs1 := [8]) rfl sc_Engine_d_init.nd (ct_tup [4, 5]) (ct_name 8) (i_seq (e_fld T.o_Engine.cl T.n_Engine_passes (e_var 0) (by rfl))) (blkOk_by (own := [("direction", 4), ("names", 5), ("name", 8)]) (N := n_Engine_d_init) (sc := defScope s_Engine_d_init) (by decide +kernel)) (by decide) (fun _ _ _ _ _ => (pg_tup rfl (pgs_cons (pg_name (i := 4) sc_Engine_d_init.nd rfl (by first | exact .inl rfl | exact .inr rfl)) (pgs_cons (pg_name (i := 5) sc_Engine_d_init.nd rfl (by first | exact .inl rfl | exact .inr rfl)) pgs_nil)))) (fun _ _ _ _ _ => ts_nil) (fun _ _ _ _ _ => (i_seq (e_var 5))) (fun _ _ _ _ _ => (pg_name (i := 8) sc_Engine_d_init.nd rfl (by first | exact .inl rfl | exact .inr rfl))) (fun _ _ _ _ _ => ts_nil) (fun _ _ _ _ _ => (e_var 8)))) (ss_cons (s_if (PW.pt (w_or (t_not (t_tru (e_call (cal_def G_are_names (hr.mono (by decide)) tk) T.g_are_names T.F_are_names.kp (a_cons (e_fld T.o_Engine.cl T.n_Engine_kinds (e_var 0) (by rfl)) (a_cons e_int a_nil))))) (w_or (t_not (t_chain op_le od_le op_le od_le e_int (e_bi call_len bd_len T.z_len (a_cons (e_fld T.o_Engine.cl T.n_Engine_passes (e_var 0) (by rfl)) a_nil)) e_int)) (w_or1 (t_not (t_tru (e_call (cal_def G_are_names (hr.mono (by decide)) tk) T.g_are_names T.F_are_names.kp (a_cons (e_fld T.o_Engine.cl T.n_Engine_attributes (e_var 0) (by rfl)) (a_cons e_int a_nil))))))))) (ss_one (s_raise rfl tk T.g_BadEngine T.x_BadEngine)) ss_nil) (ss_cons (s_for (passes_of rfl) rfl (i_seq (e_fld T.o_Engine.cl T.n_Engine_passes (e_var 0) (by rfl))) (g_tup rfl (gs_cons (g_name 4 sc_Engine_d_init.nd) (gs_cons (g_name 5 sc_Engine_d_init.nd) gs_nil))) (ss_one (s_if (PW.pt (w_or (t_cmp op_notIn_seq od_in (e_var 4) (e_tup (a_cons e_str (a_cons e_str a_nil)))) (w_or1 (t_cmp (op_eqA hr) od_eq (e_bi call_len bd_len T.z_len (a_cons (e_var 5) a_nil)) e_int)))) (ss_one (s_raise rfl tk T.g_BadEngine T.x_BadEngine)) ss_nil))) (ss_cons (s_for (passes_of rfl) rfl (i_seq (e_bin op_addA od_add (e_gtup T.c_WORDS T.k_WORDS) (e_tup (a_cons e_str a_nil)))) (g_name 6 sc_Engine_d_init.nd) (ss_one (s_if (t_cmp op_in_seq od_in (e_var 6) (e_fld T.o_Engine.cl T.n_Engine_attributes (e_var 0) (by rfl))) (ss_one (s_raise rfl tk T.g_BadEngine T.x_BadEngine)) ss_nil))) (ss_cons (s_fld T.o_Engine.cl T.n_Engine_table (e_var 0) e_newT) (ss_cons (s_if (t_cmp (op_neA hr) od_ne (e_bi call_lenDk bd_lenDk T.z_len (a_cons (e_var 3) a_nil)) (e_bi call_len bd_len T.z_len (a_cons (e_fld T.o_Engine.cl T.n_Engine_kinds (e_var 0) (by rfl)) a_nil))) (ss_one (s_raise rfl tk T.g_BadEngine T.x_BadEngine)) ss_nil) (ss_one (s_gh (s_for (passes_of rfl) rfl (i_seq (e_fld T.o_Engine.cl T.n_Engine_kinds (e_var 0) (by rfl))) (g_name 7 sc_Engine_d_init.nd) (ss_cons (s_if (PW.pt (w_or (t_cmp (op_notInDct (huD hr)) od_inDct (e_var 7) (e_var 3)) (w_or1 (t_cmp (op_neA hr) od_ne (e_bi call_lenDk bd_lenDk T.z_len (a_cons (e_dget (huD hr) (e_var 3) (e_var 7)) a_nil)) (e_bi call_len bd_len T.z_len (a_cons (e_fld T.o_Engine.cl T.n_Engine_attributes (e_var 0) (by rfl)) a_nil)))))) (ss_one (s_raise rfl tk T.g_BadEngine T.x_BadEngine)) ss_nil) (ss_one (s_for (passes_of rfl) rfl (i_seq (e_fld T.o_Engine.cl T.n_Engine_attributes (e_var 0) (by rfl))) (g_name 8 sc_Engine_d_init.nd) (ss_cons (s_if (t_cmp (op_notInDct (huD hr)) od_inDct (e_var 8) (e_dget (huD hr) (e_var 3) (e_var 7))) (ss_one (s_raise rfl tk T.g_BadEngine T.x_BadEngine)) ss_nil) (ss_one (s_asg (e_meth (cal_def G_Engine_checked (hr.mono (by decide)) tk) T.o_Engine.cl T.mt_Engine_checked (e_var 0) (a_cons (e_bt call_list_of bd_list T.z_list (a_cons (e_dget (huD hr) (e_dget (huD hr) (e_var 3) (e_var 7)) (e_var 8)) a_nil)) a_nil)) (g_dx (huD hr) (e_fld T.o_Engine.cl T.n_Engine_table (e_var 0) (by rfl)) (e_tup (a_cons (e_var 7) (a_cons (e_var 8) a_nil)))))))))))))))))))))
theorem names_len {xs : List Str} {n : Int} (h : namesB xs n = true) : ∀ x ∈ xs, x.length ≤ 1000000 := fun x hx => by
  unfold namesB at h
  simp only [Bool.and_eq_true] at h
  have := List.all_eq_true.mp h.2.2 x hx
  unfold nameB at this
  simp only [Bool.and_eq_true, decide_eq_true_eq] at this
  omega
theorem names_le {xs : List Str} {n : Int} (h : namesB xs n = true) : (xs.length : Int) ≤ n := by
  unfold namesB at h
  simp only [Bool.and_eq_true, decide_eq_true_eq] at h
  exact h.1.2
theorem names_nd {xs : List Str} {n : Int} (h : namesB xs n = true) : xs.Nodup := by
  unfold namesB at h
  simp only [Bool.and_eq_true, decide_eq_true_eq] at h
  exact h.2.1
theorem tab_len (E : Eng) : ∀ ks : List Str, (ks.flatMap E.tabRow).length = ks.length * E.attrs.length
  | [] => by simp
  | k :: ks => by
    rw [List.flatMap_cons, List.length_append, tab_len E ks, List.length_cons, Nat.succ_mul]
    unfold Eng.tabRow
    rw [List.length_map]; omega
theorem len_Engine_d_init {a : Adr} {ds μ Ξ Φ} (h : w_Engine_d_init a ds μ Ξ Φ) : ds.length = 4 := by obtain ⟨_, _, _, rfl, _⟩ := h; rfl
theorem read_Engine_d_init {a : Adr} : ∀ ds μ Ξ Φ, w_Engine_d_init a ds μ Ξ Φ → B_Engine_d_init a { nx := fun _ μ' => Φ .non μ', rt := Φ } (startG n_Engine_d_init ds) μ (fun _ => Ξ) := by
  rintro ds μ Ξ Φ ⟨s, E, hE, rfl, hs, h⟩
  unfold B_Engine_d_init
  walk_at "d"
  refine bList_items (xs := sL E.kinds) rfl ?_
  walk_at "d"
  refine ⟨s, [], rfl, hs, by simp, ?_⟩
  walk_at "d"
  have hk := hE.kinds
  have hat := hE.attrs
  have p3 := hE.p3
  have a4 : E.attrs.length ≤ 4 := by
    have := hat; unfold namesB at this
    simp only [Bool.and_eq_true, decide_eq_true_eq] at this
    omega
  have k3 : E.kinds.length ≤ 3 := by
    have := hk; unfold namesB at this
    simp only [Bool.and_eq_true, decide_eq_true_eq] at this
    omega
  refine lc_pure (xs := E.passes) (fun p => D.tup [.str p.1, .lst (sL p.2)]) (fun p => D.tup [.str p.1, .ftup (sL p.2)]) (sz_of (by omega)) trivial (fun p hp U hU => ?_) ?_
  · refine ⟨_, rfl, rfl, ?_⟩
    walk_at "d"
    refine ⟨_, _, rfl, .inl ⟨rfl, ?_⟩⟩
    walk_at "d"
    exact ⟨sz_of (by simp), hU⟩
  · walk_at "d"
    refine ⟨s, _, rfl, updM_same, by have l1 := putD_len (f := "passes") (d := D.lst E.passD) (putD "kinds" (D.lst (sL E.kinds)) []); have l2 := putD_len (f := "kinds") (d := D.lst (sL E.kinds)) []; simp only [List.length_nil, Eng.passD] at l1 l2; omega, ?_⟩
    rw [updM_updM]
    walk_at "d"
    refine ⟨_, _, ins_adr updM_same, rfl, ?_⟩
    refine ⟨_, rfl, ?_⟩
    refine lc2_pure (xs := E.passes) (fun p => D.tup [.str p.1, .ftup (sL p.2)]) (fun p => sL p.2) (by
      have e : E.passes.flatMap (fun p => sL p.2) = sL E.attrs := by unfold Eng.attrs sL; rw [List.map_flatMap]
      rw [e, List.length_map]; exact sz_of (by omega)) trivial (fun p hp acc0 K1 hz hK => ?_) ?_
    · refine ⟨_, rfl, rfl, ?_⟩
      walk_at "d"
      refine ⟨_, rfl, ?_⟩
      refine in1_filter (ys := p.2) D.str D.str (fun _ => true) (by rw [List.length_map] at hz; exact hz) trivial (fun y _ U hU => ?_) ?_
      · walk_at "d"
        exact hU
      · rw [List.filter_eq_self.mpr (fun _ _ => rfl)]; exact hK
    · have e : E.passes.flatMap (fun p => sL p.2) = sL E.attrs := by unfold Eng.attrs sL; rw [List.map_flatMap]
      rw [e]
      walk_at "d"
      refine ⟨s, _, rfl, updM_same, by have l1 := putD_len (f := "passes") (d := D.lst E.passD) (putD "kinds" (D.lst (sL E.kinds)) []); have l2 := putD_len (f := "kinds") (d := D.lst (sL E.kinds)) []; simp only [List.length_nil, Eng.passD] at l1 l2; omega, ?_⟩
      rw [updM_updM]
      have e2 : putD "attributes" (D.lst (sL E.attrs)) (putD "passes" (D.lst (List.map (fun p => D.tup [D.str p.1, D.ftup (sL p.2)]) E.passes)) (putD "kinds" (D.lst (sL E.kinds)) [])) = ([("kinds", .lst (sL E.kinds)), ("passes", .lst E.passD), ("attributes", .lst (sL E.attrs))] : List (Str × D)) := rfl
      rw [e2]
      have hp1 : decide ((1 : Int) ≤ (E.passD.length : Int)) = true := by have := hE.p1; unfold Eng.passD; rw [List.length_map]; exact decide_eq_true (by omega)
      have hp3 : decide ((E.passD.length : Int) ≤ 3) = true := by unfold Eng.passD; rw [List.length_map]; exact decide_eq_true (by omega)
      refine dSeq_to (fun γ' μ' => γ' = startG n_Engine_d_init [.adr s, .lst (sL E.kinds), .lst E.passIn, .dK E.srcIn] ∧ μ' = updM μ s (.ins a.C_Engine [("kinds", .lst (sL E.kinds)), ("passes", .lst E.passD), ("attributes", .lst (sL E.attrs))])) ?_ fun U hU => ?_
      · rintro γ' μ' ⟨rfl, rfl⟩
        have hs1 : ∀ t, updM μ s (.ins a.C_Engine [("kinds", .lst (sL E.kinds)), ("passes", .lst E.passD), ("attributes", .lst (sL E.attrs))]) t = none → s ≠ t ∧ μ t = none := fun t ht => by
          have : s ≠ t := fun e => by subst e; rw [updM_same] at ht; cases ht
          exact ⟨this, by rw [updM_ne (Ne.symm this)] at ht; exact ht⟩
        walk_at "d"
        refine ⟨_, _, ins_adr updM_same, rfl, ?_⟩
        refine ⟨_, rfl, ?_⟩
        refine for_pure (xs := E.passes) (fun p => D.tup [.str p.1, .ftup (sL p.2)]) (fun γ => ∃ o4 o5, γ = [some (.adr s), some (.lst (sL E.kinds)), some (.lst E.passIn), some (.dK E.srcIn), o4, o5, none, none, none]) ⟨none, none, rfl⟩ trivial ?_ ?_
        · rintro p hp γ' ⟨o4, o5, rfl⟩ U hU
          show gTp 2 _ _ _ _ _ _
          walk_at "d"
          refine ⟨sz_of (by decide), ?_⟩
          refine oNotIn_strs (ys := ["down", "up"]) rfl ?_
          have d1 : decide (p.1 ∈ (["down", "up"] : List Str)) = true := decide_eq_true (by rcases hE.dir p hp with h | h <;> rw [h] <;> simp)
          rw [d1]
          walk_at "d"
          refine ⟨_, _, rfl, rfl, ?_⟩
          walk_at "d"
          have d2 : decide (((sL p.2).length : Int) = 0) = false := decide_eq_false (by
            have := hE.ne p hp
            rw [List.length_map]
            intro z
            exact this (List.length_eq_zero_iff.mp (by omega)))
          rw [d2]
          walk_at "d"
          exact hU _ ⟨_, _, rfl⟩
        · rintro γ' ⟨o4, o5, rfl⟩
          walk_at "d"
          refine ⟨sz_of (by decide), ?_⟩
          refine oAdd_kt (by simp) (by simp) (sz_of (by decide)) ?_
          walk_at "d"
          refine for_pure (xs := k_WORDS ++ [("fence" : Str)]) D.str (fun γ => ∃ o6, γ = [some (.adr s), some (.lst (sL E.kinds)), some (.lst E.passIn), some (.dK E.srcIn), o4, o5, o6, none, none]) ⟨none, rfl⟩ trivial ?_ ?_
          · rintro x hx γ' ⟨o6, rfl⟩ U hU
            walk_at "d"
            refine ⟨_, _, ins_adr updM_same, rfl, ?_⟩
            refine oIn_strs rfl ?_
            rw [decide_eq_false (hE.words x hx)]
            walk_at "d"
            exact hU _ ⟨_, rfl⟩
          · rintro γ' ⟨o6, rfl⟩
            walk_at "d"
            intro t ht
            obtain ⟨st, ht0⟩ := hs1 t ht
            walk_at "d"
            refine ⟨s, _, rfl, by rw [updM_ne st]; exact updM_same, by simp, ?_⟩
            rw [updM_upd2 st]
            have e3 : putD "table" (.adr t) [("kinds", .lst (sL E.kinds)), ("passes", .lst E.passD), ("attributes", .lst (sL E.attrs))] = ([("kinds", .lst (sL E.kinds)), ("passes", .lst E.passD), ("attributes", .lst (sL E.attrs)), ("table", .adr t)] : List (Str × D)) := rfl
            rw [e3]
            have ms : ∀ T, updM (updM μ s (.ins a.C_Engine [("kinds", .lst (sL E.kinds)), ("passes", .lst E.passD), ("attributes", .lst (sL E.attrs)), ("table", .adr t)])) t T s = some (.ins a.C_Engine [("kinds", .lst (sL E.kinds)), ("passes", .lst E.passD), ("attributes", .lst (sL E.attrs)), ("table", .adr t)]) := fun T => by rw [updM_ne st, updM_same]
            walk_at "d"
            refine ⟨_, _, rfl, rfl, ?_⟩
            walk_at "d"
            refine ⟨_, _, ins_adr (ms _), rfl, ?_⟩
            walk_at "d"
            have l1 : decide ((E.srcIn.length : Int) = ((sL E.kinds).length : Int)) = true := by unfold Eng.srcIn; rw [List.length_map, List.length_map]; simp
            rw [l1]
            walk_at "d"
            refine ⟨_, _, ins_adr (ms _), rfl, ?_⟩
            refine ⟨_, rfl, ?_⟩
            have kn : E.kinds.Nodup := names_nd hk
            have an : E.attrs.Nodup := names_nd hat
            refine for_pre (xs := E.kinds) D.str (fun ks γ' μ' => ∃ o7 o8, γ' = [some (.adr s), some (.lst (sL E.kinds)), some (.lst E.passIn), some (.dK E.srcIn), o4, o5, o6, o7, o8] ∧ μ' = updM (updM μ s (.ins a.C_Engine [("kinds", .lst (sL E.kinds)), ("passes", .lst E.passD), ("attributes", .lst (sL E.attrs)), ("table", .adr t)])) t (.dT (ks.flatMap E.tabRow))) ⟨none, none, rfl, rfl⟩ (fun _ _ _ _ => trivial) ?_ ?_
            · rintro ks k zs ek γ' μ' ⟨o7, o8, rfl, rfl⟩ U hU
              have kin : k ∈ E.kinds := by rw [ek]; simp
              have g1 : ∀ μ' : Mu, dGetD μ' (.dK E.srcIn) (.str k) = some (some (.dK (E.attrs.map fun n => (.inr n, .lst (sL (E.src k n)))))) := fun μ' => congrArg some (valD_map (κ := Key) (fun k : Str => .inr k) _ kin fun y _ e => by cases e; rfl)
              walk_at "d"
              refine oNotInD_some (g1 _) ?_
              walk_at "d"
              refine ⟨_, g1 _, ?_⟩
              walk_at "d"
              refine ⟨_, _, rfl, rfl, ?_⟩
              walk_at "d"
              refine ⟨_, _, ins_adr (ms _), rfl, ?_⟩
              walk_at "d"
              rw [List.length_map, List.length_map, decide_eq_true rfl]
              walk_at "d"
              refine ⟨_, _, ins_adr (ms _), rfl, ?_⟩
              refine ⟨_, rfl, ?_⟩
              refine for_pre (xs := E.attrs) D.str (fun ns γ' μ' => ∃ o8, γ' = [some (.adr s), some (.lst (sL E.kinds)), some (.lst E.passIn), some (.dK E.srcIn), o4, o5, o6, some (.str k), o8] ∧ μ' = updM (updM μ s (.ins a.C_Engine [("kinds", .lst (sL E.kinds)), ("passes", .lst E.passD), ("attributes", .lst (sL E.attrs)), ("table", .adr t)])) t (.dT (ks.flatMap E.tabRow ++ ns.map fun n => ([.inr k, .inr n], .tup (sL (E.src k n)))))) ⟨o8, rfl, by simp⟩ (fun _ _ _ _ => trivial) ?_ ?_
              · rintro ns n zs2 en γ' μ' ⟨o8, rfl, rfl⟩ V hV
                have nin : n ∈ E.attrs := by rw [en]; simp
                have g2 : ∀ μ' : Mu, dGetD μ' (.dK (E.attrs.map fun n => (.inr n, .lst (sL (E.src k n))))) (.str n) = some (some (.lst (sL (E.src k n)))) := fun μ' => congrArg some (valD_map (κ := Key) (fun k : Str => .inr k) _ nin fun y _ e => by cases e; rfl)
                walk_at "d"
                refine ⟨_, g1 _, ?_⟩
                refine oNotInD_some (g2 _) ?_
                walk_at "d"
                refine ⟨_, ins_adr (ms _), rfl, ?_⟩
                walk_at "d"
                refine ⟨_, g1 _, ?_⟩
                walk_at "d"
                refine ⟨_, g2 _, ?_⟩
                walk_at "d"
                refine bList_items (xs := sL (E.src k n)) rfl ?_
                walk_at "d"
                obtain ⟨c1, c2⟩ := hE.srcs k kin n nin
                refine ⟨_, E.attrs, _, E.src k n, _, rfl, ins_adr (ms _), rfl, rfl, ?_, c2, fun _ => ?_, fun z => ?_⟩
                · unfold checkedB at c1
                  simp only [Bool.and_eq_true, decide_eq_true_eq] at c1
                  omega
                · refine gDx_i ?_
                  walk_at "d"
                  refine ⟨_, _, ins_adr (ms _), rfl, ?_⟩
                  walk_at "d"
                  refine ⟨sz_of (by show 2 ≤ _; decide), ?_⟩
                  have le1 : (ks.flatMap E.tabRow ++ ns.map fun n => (([.inr k, .inr n], .tup (sL (E.src k n))) : List Key × D)).length ≤ 100 := by
                    have h1 : ks.length ≤ 3 := by have := congrArg List.length ek; rw [List.length_append] at this; omega
                    have h2 : ns.length ≤ 4 := by have := congrArg List.length en; rw [List.length_append] at this; omega
                    rw [List.length_append, List.length_map, tab_len]
                    have := Nat.mul_le_mul h1 a4
                    omega
                  refine ⟨t, rfl, .inr ⟨_, [.inr k, .inr n], updM_same, rfl, sz_lt (by omega), ?_⟩⟩
                  rw [updM_updM, putKD_new _ (valD_no fun e he => ?_)]
                  · refine hV _ _ ⟨_, rfl, ?_⟩
                    rw [List.map_append, ← List.append_assoc]; rfl
                  · rcases List.mem_append.mp he with he | he
                    · obtain ⟨k', hk', he⟩ := List.mem_flatMap.mp he
                      obtain ⟨n', _, rfl⟩ := List.mem_map.mp he
                      intro z
                      have : k' = k := by injection z with z1 _; injection z1
                      subst this
                      rw [ek] at kn
                      exact (List.nodup_append.mp kn).2.2 k' hk' k' (by simp) rfl
                    · obtain ⟨n', hn', rfl⟩ := List.mem_map.mp he
                      intro z
                      have : n' = n := by injection z with _ z1; injection z1 with z1 _; injection z1
                      subst this
                      rw [en] at an
                      exact (List.nodup_append.mp an).2.2 n' hn' n' (by simp) rfl
                · rw [c1] at z; cases z
              · rintro γ' μ' ⟨o8, rfl, rfl⟩
                refine hU _ _ ⟨_, _, rfl, ?_⟩
                rw [List.flatMap_append, List.flatMap_singleton]; rfl
            · rintro γ' μ' ⟨o7, o8, rfl, rfl⟩
              refine Gh.one (d := .dT E.tabD) (m' := .ins a.C_Engine E.flds) (by rw [updM_ne (Ne.symm st)]; exact ht0) rfl updM_same (SubM.ins rfl (.cons .refl (.cons .refl (.cons .refl (.cons (SubD.here (by simp)) .nil))))) ?_
              rw [updM_updM]
              exact h
      · walk_at "d"
        refine ⟨_, _, ins_adr updM_same, rfl, ?_⟩
        walk_at "d"
        refine ⟨_, E.kinds, 3, rfl, rfl, by omega, names_len hk, ?_⟩
        rw [hk]
        walk_at "d"
        refine ⟨_, _, ins_adr updM_same, rfl, ?_⟩
        walk_at "d"
        rw [hp1]
        walk_at "d"
        rw [hp3]
        walk_at "d"
        refine ⟨_, _, ins_adr updM_same, rfl, ?_⟩
        walk_at "d"
        refine ⟨_, E.attrs, 4, rfl, rfl, by omega, names_len hat, ?_⟩
        rw [hat]
        walk_at "d"
        exact hU _ _ ⟨rfl, rfl⟩
theorem ok_Engine_d_init {P : Program} {w : World} {K : PySem.W.Frag} {mg : Str → Option Value} {base : Heap} {a : Adr} (T : Txt K mg a) (G_are_names : FnD P w K mg base 2 a.f_are_names (w_are_names a)) (G_Engine_checked : FnD P w K mg base 2 a.f_Engine_checked (w_Engine_checked a)) : FnD P w K mg base 3 a.f_Engine_d_init (w_Engine_d_init a) := by
  obtain ⟨fd, F⟩ := T.F_Engine_d_init.ex
  exact fn_D F (F.binds (ps := ["self", "kinds", "passes", "sources"]) fun _ _ _ _ _ _ us hl => match us, hl with | [_, _, _, _], _ => rfl) sc_Engine_d_init (fun ds μ Ξ Φ h => len_Engine_d_init h) fun cdv A outer s H E hr => ⟨B_Engine_d_init a, D_Engine_d_init T G_are_names G_Engine_checked cdv A outer s H E hr, fun ds μ Ξ Φ h => read_Engine_d_init ds μ Ξ Φ h⟩

/-- Marks.__init__ -/
abbrev n_Marks_d_init : List Str := ["self", "names", "kept", "name"]
theorem sc_Marks_d_init : FnScope n_Marks_d_init ["self", "names"] (defScope s_Marks_d_init) := ⟨rfl, rfl, rfl, by decide +kernel, rfl, by decide +kernel, by decide +kernel⟩
def B_Marks_d_init (a : Adr) : TDS :=
  (dSeq (dAsg (dLstM dNil) (gNm 2)) (dSeq (dFor (dIt (dVar 1)) (gNm 3) (dIf (dTest (dOp (oIn true) (dVar 3) (dVar 2))) (dDrop (dBm isLis mAppend (dVar 2) (dCons (dVar 3) dNil))) dNext)) (dSFld a.C_Marks "names" (dVar 0) (dBi bSorted (dCons (dLc (dIt (dFrz (dVar 2))) (cNm 3) dYes (dBi bStr (dCons (dVar 3) dNil)) [3]) dNil)))))
theorem D_Marks_d_init {P : Program} {w : World} {K : PySem.W.Frag} {mg : Str → Option Value} {base : Heap} {a : Adr} (T : Txt K mg a)  (cdv : Value) (A : Around) (outer : List PySem.Env) (s : Shared) (H : Hp) (E : XK) (hr : Room 0 (A.deeper (PyProof.Rows.envOfC "Marks.__init__" (defScope s_Marks_d_init) s.heap.objs.size a.f_Marks_d_init cdv))) :
    PSs (cxOf (L2.CX P w) P w K mg base n_Marks_d_init "Marks.__init__" (defScope s_Marks_d_init) a.f_Marks_d_init cdv A outer s H E) (defBody s_Marks_d_init) (tDS K (fun cls d _ H => E cls d H) (B_Marks_d_init a)) := by
  have tk : Takes (cxOf (L2.CX P w) P w K mg base n_Marks_d_init "Marks.__init__" (defScope s_Marks_d_init) a.f_Marks_d_init cdv A outer s H E) (fun cls d _ H => E cls d H) := takes_of rfl rfl rfl rfl
  exact (ss_cons (s_set 2 sc_Marks_d_init.nd (e_lstM a_nil)) (ss_cons (s_for (passes_of rfl) rfl (i_seq (e_var 1)) (g_name 3 sc_Marks_d_init.nd) (ss_one (s_if (t_cmp op_notIn_seq od_in (e_var 3) (e_var 2)) (ss_one (s_expr (e_bm PySem.F.plainAttrs_list PySem.F.slot_list_append PySem.F.type_list_append mt_append md_append (e_var 2) (a_cons (e_var 3) a_nil)))) ss_nil))) (ss_one (s_fld T.o_Marks.cl T.n_Marks_names (e_var 0) (e_bi cr_sortedS bd_sorted T.z_sorted (a_cons (e_lc (own := [("name", 3)]) rfl sc_Marks_d_init.nd (ct_name 3) (i_seq (e_frz (e_var 2))) (blkOk_by (own := [("name", 3)]) (N := n_Marks_d_init) (sc := defScope s_Marks_d_init) (by decide +kernel)) (fun _ _ _ _ _ => (pg_name (i := 3) sc_Marks_d_init.nd rfl (by first | exact .inl rfl | exact .inr rfl))) (fun _ _ _ _ _ => ts_nil) (fun _ _ _ _ _ => (e_bt SkE.call_str_str bd_str T.z_str (a_cons (e_var 3) a_nil)))) a_nil))))))
theorem len_Marks_d_init {a : Adr} {ds μ Ξ Φ} (h : w_Marks_d_init a ds μ Ξ Φ) : True := trivial
theorem perm_set {xs ys zs : List Str} (hp : ys.Perm (dd xs)) (hs : PyProof.Rows.sortedS ys = true) (h : ∀ z, z ∈ xs ↔ z ∈ zs) : SetOf ys (· ∈ zs) :=
  ⟨srt_of hs (hp.nodup_iff.mpr (dd_nd xs)), fun z => by rw [hp.mem_iff, dd_mem]; exact h z⟩
theorem read_Marks_d_init {a : Adr} : ∀ ds μ Ξ Φ, t_Marks_d_init a ds μ Ξ Φ → B_Marks_d_init a { nx := fun _ μ' => Φ .non μ', rt := Φ } (startG n_Marks_d_init ds) μ (fun _ => Ξ) := by
  rintro ds μ Ξ Φ ⟨s, xs, rfl, hs, hz, h⟩
  unfold B_Marks_d_init
  walk_at "d"
  refine ⟨sz_of (by decide), fun p hp => ?_⟩
  have hsp := mu_ne hs hp
  walk_at "d"
  refine ⟨fun i γ' μ' => i ≤ xs.length ∧ (∃ o, γ' = [some (.adr s), some (.tup (sL xs)), some (.adr p), o]) ∧ μ' = updM μ p (.lst (sL (dd (xs.take i)))), ⟨Nat.zero_le _, ⟨none, rfl⟩, rfl⟩, fun _ _ _ _ => trivial, ?_, ?_⟩
  · rintro i d γ' μ' hd ⟨_, ⟨o, rfl⟩, rfl⟩
    rw [List.getElem?_map] at hd
    cases hx : xs[i]? with
    | none => rw [hx] at hd; cases hd
    | some x =>
      rw [hx] at hd
      cases hd
      have hi := (List.getElem?_eq_some_iff.mp hx).1
      have e1 : dd (xs.take (i + 1)) = if x ∈ dd (xs.take i) then dd (xs.take i) else dd (xs.take i) ++ [x] := by rw [List.take_succ, hx]; exact dd_snoc _ x
      walk_at "d"
      refine oNotIn_strs (items_adr updM_same) ?_
      walk_at "d"
      refine ite_nd (fun q => ?_) fun q => ?_
      · walk_at "d"
        refine ⟨isLis_adr updM_same, ?_⟩
        walk_at "d"
        have := dd_len (xs.take i)
        refine mAppend_i updM_same (sz_lt (by rw [List.length_map]; rw [List.length_take] at this; omega)) ⟨hi, ⟨_, rfl⟩, ?_⟩
        rw [updM_updM, e1, if_neg q, sL, sL, List.map_append]; rfl
      · walk_at "d"
        exact ⟨hi, ⟨_, rfl⟩, by rw [e1, if_pos q]⟩
  · rintro γ' μ' ⟨_, ⟨o, rfl⟩, rfl⟩
    have e0 : xs.take ((sL xs).length) = xs := by rw [List.length_map]; exact List.take_of_length_le (Nat.le_refl _)
    rw [e0]
    walk_at "d"
    refine frzE_l updM_same ?_
    rw [delM_updM hp]
    refine ⟨_, rfl, ?_⟩
    have := dd_len xs
    refine lc_pure D.str D.str (sz_of (by omega)) trivial (fun x _ U h => ?_) ?_
    · walk_at "d"
      exact h
    · walk_at "d"
      refine ⟨_, dd xs, rfl, rfl, by omega, fun ys hp hso => ?_⟩
      walk_at "d"
      exact ⟨s, [], rfl, hs, by decide, h ys (perm_set hp hso fun _ => Iff.rfl)⟩
theorem ok_Marks_d_init {P : Program} {w : World} {K : PySem.W.Frag} {mg : Str → Option Value} {base : Heap} {a : Adr} (T : Txt K mg a)  : FnD P w K mg base 1 a.f_Marks_d_init (w_Marks_d_init a) := by
  obtain ⟨oc, od, an, osl, kV, doc, pm, cdv, ct, lk, hcd⟩ := T.F_Marks_d_init.ex2
  exact fn_DS (ps := ["self"]) (pv := "names") lk hcd sc_Marks_d_init (by exact StX.bind_star1 (B := fun l => bindArgs _ ⟨l, []⟩) (fun _ => rfl) (fun _ _ _ => rfl)) fun A outer s H E hr => ⟨B_Marks_d_init a, D_Marks_d_init T  cdv A outer s H E hr, fun ds μ Ξ Φ h => read_Marks_d_init ds μ Ξ Φ h⟩
theorem make_Marks {a : Adr} {μ : Mu} {Ξ : XF} {Φ : KD} {xs : List Str} (hz : xs.length < 64) (h : ∀ p ys, μ p = none → SetOf ys (· ∈ xs) → Φ (.adr p) (updM μ p (MkM a.C_Marks ys))) : wMake a.C_Marks (w_Marks_d_init a) (sL xs) μ Ξ Φ :=
  fun x hx => ⟨[.adr x], sL xs, rfl, rfl, sz_of (by rw [List.length_map]; omega), x, xs, rfl, updM_same, hz, fun ys hys => ⟨rfl, by rw [updM_updM]; exact h x ys hx hys⟩⟩
theorem fld_Marks {C : Addr} {μ : Mu} {s : Addr} {xs : List Str} {P : D → Prop} (h : μ s = some (MkM C xs)) (k : P (.lst (sL xs))) : ∃ fs x, insD μ (.adr s) = some (C, fs) ∧ fs.lookup ("names" : Str) = some x ∧ P x := ⟨_, _, ins_adr h, rfl, k⟩
theorem isi_Marks {C : Addr} {μ : Mu} {s : Addr} {xs : List Str} {Φ : KD} (h : μ s = some (MkM C xs)) (k : Φ (.bl true) μ) : bIsi C C true [.adr s, .adr C] μ Φ := bIsi_ins (ins_adr h) k
theorem sL_app (xs ys : List Str) : sL xs ++ sL ys = sL (xs ++ ys) := (List.map_append).symm

/-- Marks.__or__ -/
abbrev n_Marks_d_or : List Str := ["self", "other", "names"]
theorem sc_Marks_d_or : FnScope n_Marks_d_or ["self", "other"] (defScope s_Marks_d_or) := ⟨rfl, rfl, rfl, by decide +kernel, rfl, by decide +kernel, by decide +kernel⟩
def B_Marks_d_or (a : Adr) : TDS :=
  (dSeq (dIf (dNot (dTru (dBi (bIsi a.C_Marks a.C_Marks true) (dCons (dVar 1) (dCons (dC (.adr a.C_Marks)) dNil))))) dNever dNext) (dSeq (dAsg (dOp oAdd (dFld a.C_Marks "names" (dVar 0)) (dFld a.C_Marks "names" (dVar 1))) (gNm 2)) (dRet (dCall (wMake a.C_Marks (w_Marks_d_init a)) (dStar (dVar 2) dNil)))))
theorem D_Marks_d_or {P : Program} {w : World} {K : PySem.W.Frag} {mg : Str → Option Value} {base : Heap} {a : Adr} (T : Txt K mg a) (G_Marks_d_init : FnD P w K mg base 1 a.f_Marks_d_init (w_Marks_d_init a)) (cdv : Value) (A : Around) (outer : List PySem.Env) (s : Shared) (H : Hp) (E : XK) (hr : Room 2 (A.deeper (PyProof.Rows.envOfC "Marks.__or__" (defScope s_Marks_d_or) s.heap.objs.size a.f_Marks_d_or cdv))) :
    PSs (cxOf (L2.CX P w) P w K mg base n_Marks_d_or "Marks.__or__" (defScope s_Marks_d_or) a.f_Marks_d_or cdv A outer s H E) (defBody s_Marks_d_or) (tDS K (fun cls d _ H => E cls d H) (B_Marks_d_or a)) := by
  have tk : Takes (cxOf (L2.CX P w) P w K mg base n_Marks_d_or "Marks.__or__" (defScope s_Marks_d_or) a.f_Marks_d_or cdv A outer s H E) (fun cls d _ H => E cls d H) := takes_of rfl rfl rfl rfl
  exact (ss_cons (s_if (t_not (t_tru (e_bi call_isi (bd_isi T.o_Marks T.i_Marks_Marks) T.z_isinstance (a_cons (e_var 1) (a_cons (e_gref T.g_Marks) a_nil))))) (ss_one s_never) ss_nil) (ss_cons (s_set 2 sc_Marks_d_or.nd (e_bin op_addA od_add (e_fld T.o_Marks.cl T.n_Marks_names (e_var 0) (by rfl)) (e_fld T.o_Marks.cl T.n_Marks_names (e_var 1) (by rfl)))) (ss_one (s_ret (e_callS (cal_class T.mk_Marks G_Marks_d_init (hr.mono (by decide)) tk) T.g_Marks T.mk_Marks.kp (e_var 2))))))
theorem len_Marks_d_or {a : Adr} {ds μ Ξ Φ} (h : w_Marks_d_or a ds μ Ξ Φ) : ds.length = 2 := by obtain ⟨_, _, _, _, rfl, _⟩ := h; rfl
theorem read_Marks_d_or {a : Adr} : ∀ ds μ Ξ Φ, w_Marks_d_or a ds μ Ξ Φ → B_Marks_d_or a { nx := fun _ μ' => Φ .non μ', rt := Φ } (startG n_Marks_d_or ds) μ (fun _ => Ξ) := by
  rintro ds μ Ξ Φ ⟨s, o, xs, ys, rfl, hs, ho, hz, h⟩
  unfold B_Marks_d_or
  walk_at "d"
  refine isi_Marks ho ?_
  walk_at "d"
  refine fld_Marks hs ?_
  walk_at "d"
  refine fld_Marks ho ?_
  refine oAdd_lst (by simp only [List.length_map]; exact sz_of (by omega)) ?_
  walk_at "d"
  rw [sL_app]
  rw [List.append_nil]
  refine make_Marks (by simp; omega) fun p zs hp hz => h p zs hp ⟨hz.1, fun z => ?_⟩
  rw [hz.2]; exact List.mem_append
theorem ok_Marks_d_or {P : Program} {w : World} {K : PySem.W.Frag} {mg : Str → Option Value} {base : Heap} {a : Adr} (T : Txt K mg a) (G_Marks_d_init : FnD P w K mg base 1 a.f_Marks_d_init (w_Marks_d_init a)) : FnD P w K mg base 3 a.f_Marks_d_or (w_Marks_d_or a) := by
  obtain ⟨fd, F⟩ := T.F_Marks_d_or.ex
  exact fn_D F (F.binds (ps := ["self", "other"]) fun _ _ _ _ _ _ us hl => match us, hl with | [_, _], _ => rfl) sc_Marks_d_or (fun ds μ Ξ Φ h => len_Marks_d_or h) fun cdv A outer s H E hr => ⟨B_Marks_d_or a, D_Marks_d_or T G_Marks_d_init cdv A outer s H E hr, fun ds μ Ξ Φ h => read_Marks_d_or ds μ Ξ Φ h⟩

/-- Marks.__ior__ -/
abbrev n_Marks_d_ior : List Str := ["self", "other", "more", "name"]
theorem sc_Marks_d_ior : FnScope n_Marks_d_ior ["self", "other"] (defScope s_Marks_d_ior) := ⟨rfl, rfl, rfl, by decide +kernel, rfl, by decide +kernel, by decide +kernel⟩
def B_Marks_d_ior (a : Adr) : TDS :=
  (dSeq (dIf (dNot (dTru (dBi (bIsi a.C_Marks a.C_Marks true) (dCons (dVar 1) (dCons (dC (.adr a.C_Marks)) dNil))))) dNever dNext) (dSeq (dAsg (dLc (dIt (dFld a.C_Marks "names" (dVar 1))) (cNm 3) (dTest (dOp (oIn true) (dVar 3) (dFld a.C_Marks "names" (dVar 0)))) (dVar 3) [3]) (gNm 2)) (dSeq (dSFld a.C_Marks "names" (dVar 0) (dBi bSorted (dCons (dLc (dIt (dOp oAdd (dFld a.C_Marks "names" (dVar 0)) (dVar 2))) (cNm 3) dYes (dBi bStr (dCons (dVar 3) dNil)) [3]) dNil))) (dRet (dVar 0)))))
theorem D_Marks_d_ior {P : Program} {w : World} {K : PySem.W.Frag} {mg : Str → Option Value} {base : Heap} {a : Adr} (T : Txt K mg a)  (cdv : Value) (A : Around) (outer : List PySem.Env) (s : Shared) (H : Hp) (E : XK) (hr : Room 0 (A.deeper (PyProof.Rows.envOfC "Marks.__ior__" (defScope s_Marks_d_ior) s.heap.objs.size a.f_Marks_d_ior cdv))) :
    PSs (cxOf (L2.CX P w) P w K mg base n_Marks_d_ior "Marks.__ior__" (defScope s_Marks_d_ior) a.f_Marks_d_ior cdv A outer s H E) (defBody s_Marks_d_ior) (tDS K (fun cls d _ H => E cls d H) (B_Marks_d_ior a)) := by
  have tk : Takes (cxOf (L2.CX P w) P w K mg base n_Marks_d_ior "Marks.__ior__" (defScope s_Marks_d_ior) a.f_Marks_d_ior cdv A outer s H E) (fun cls d _ H => E cls d H) := takes_of rfl rfl rfl rfl
  exact (ss_cons (s_if (t_not (t_tru (e_bi call_isi (bd_isi T.o_Marks T.i_Marks_Marks) T.z_isinstance (a_cons (e_var 1) (a_cons (e_gref T.g_Marks) a_nil))))) (ss_one s_never) ss_nil) (ss_cons (s_setLc (own := [("name", 3)]) 2 rfl sc_Marks_d_ior.nd (ct_name 3) (i_seq (e_fld T.o_Marks.cl T.n_Marks_names (e_var 1) (by rfl))) (blkOk_by (own := [("name", 3)]) (N := n_Marks_d_ior) (sc := defScope s_Marks_d_ior) (by decide +kernel)) (fun _ _ _ _ _ => (pg_name (i := 3) sc_Marks_d_ior.nd rfl (by first | exact .inl rfl | exact .inr rfl))) (fun _ _ _ _ _ => (ts_one (t_cmp op_notIn_seq od_in (e_var 3) (e_fld T.o_Marks.cl T.n_Marks_names (e_var 0) (by rfl))))) (fun _ _ _ _ _ => (e_var 3))) (ss_cons (s_fld T.o_Marks.cl T.n_Marks_names (e_var 0) (e_bi cr_sortedS bd_sorted T.z_sorted (a_cons (e_lc (own := [("name", 3)]) rfl sc_Marks_d_ior.nd (ct_name 3) (i_seq (e_bin op_addA od_add (e_fld T.o_Marks.cl T.n_Marks_names (e_var 0) (by rfl)) (e_var 2))) (blkOk_by (own := [("name", 3)]) (N := n_Marks_d_ior) (sc := defScope s_Marks_d_ior) (by decide +kernel)) (fun _ _ _ _ _ => (pg_name (i := 3) sc_Marks_d_ior.nd rfl (by first | exact .inl rfl | exact .inr rfl))) (fun _ _ _ _ _ => ts_nil) (fun _ _ _ _ _ => (e_bt SkE.call_str_str bd_str T.z_str (a_cons (e_var 3) a_nil)))) a_nil))) (ss_one (s_ret (e_var 0))))))
theorem len_Marks_d_ior {a : Adr} {ds μ Ξ Φ} (h : w_Marks_d_ior a ds μ Ξ Φ) : ds.length = 2 := by obtain ⟨_, _, _, _, rfl, _⟩ := h; rfl
theorem set_or {xs ys zs : List Str} (h1 : Srt xs) (h2 : Srt ys) (hp : zs.Perm (xs ++ ys.filter fun z => !decide (z ∈ xs))) (hs : PyProof.Rows.sortedS zs = true) : SetOf zs (pOr (· ∈ xs) (· ∈ ys)) := by
  refine ⟨srt_of hs (hp.nodup_iff.mpr (List.nodup_append.mpr ⟨h1.nodup, h2.nodup.filter _, fun x hx y hy e => ?_⟩)), fun z => ?_⟩
  · subst e
    rw [List.mem_filter] at hy
    simp [hx] at hy
  · rw [hp.mem_iff, List.mem_append, List.mem_filter]
    unfold pOr
    by_cases q : z ∈ xs <;> simp [q]
theorem read_Marks_d_ior {a : Adr} : ∀ ds μ Ξ Φ, w_Marks_d_ior a ds μ Ξ Φ → B_Marks_d_ior a { nx := fun _ μ' => Φ .non μ', rt := Φ } (startG n_Marks_d_ior ds) μ (fun _ => Ξ) := by
  rintro ds μ Ξ Φ ⟨s, o, xs, ys, rfl, hs, ho, s1, s2, hz, h⟩
  unfold B_Marks_d_ior
  walk_at "d"
  refine isi_Marks ho ?_
  walk_at "d"
  refine fld_Marks ho ?_
  refine ⟨_, rfl, ?_⟩
  refine lc_filter D.str D.str (fun z => !decide (z ∈ xs)) (sz_of (by omega)) trivial (fun x _ U h => ?_) ?_
  · walk_at "d"
    refine fld_Marks hs ?_
    refine oNotIn_strs rfl ?_
    walk_at "d"
    refine ite_nd (fun q => ?_) fun q => ?_
    · walk_at "d"
      rw [if_pos (by simpa using q)] at h; exact h
    · rw [if_neg (by simpa using q)] at h; exact h
  · have := List.length_filter_le (fun z => !decide (z ∈ xs)) ys
    walk_at "d"
    refine fld_Marks hs ?_
    walk_at "d"
    refine oAdd_lst (by simp only [List.length_map]; exact sz_of (by omega)) ?_
    rw [sL_app]
    refine ⟨_, rfl, ?_⟩
    refine lc_pure D.str D.str (sz_of (by rw [List.length_append]; omega)) trivial (fun x _ U h => ?_) ?_
    · walk_at "d"
      exact h
    · walk_at "d"
      refine ⟨_, _, rfl, rfl, by rw [List.length_append]; omega, fun zs hp hso => ?_⟩
      walk_at "d"
      refine ⟨s, _, rfl, hs, by simp, ?_⟩
      walk_at "d"
      exact h zs (set_or s1 s2 hp hso)
theorem ok_Marks_d_ior {P : Program} {w : World} {K : PySem.W.Frag} {mg : Str → Option Value} {base : Heap} {a : Adr} (T : Txt K mg a)  : FnD P w K mg base 1 a.f_Marks_d_ior (w_Marks_d_ior a) := by
  obtain ⟨fd, F⟩ := T.F_Marks_d_ior.ex
  exact fn_D F (F.binds (ps := ["self", "other"]) fun _ _ _ _ _ _ us hl => match us, hl with | [_, _], _ => rfl) sc_Marks_d_ior (fun ds μ Ξ Φ h => len_Marks_d_ior h) fun cdv A outer s H E hr => ⟨B_Marks_d_ior a, D_Marks_d_ior T  cdv A outer s H E hr, fun ds μ Ξ Φ h => read_Marks_d_ior ds μ Ξ Φ h⟩

/-- Marks.__len__ -/
abbrev n_Marks_d_len : List Str := ["self"]
theorem sc_Marks_d_len : FnScope n_Marks_d_len ["self"] (defScope s_Marks_d_len) := ⟨rfl, rfl, rfl, by decide +kernel, rfl, by decide +kernel, by decide +kernel⟩
def B_Marks_d_len (a : Adr) : TDS :=
  (dRet (dBi bLen (dCons (dFld a.C_Marks "names" (dVar 0)) dNil)))
theorem D_Marks_d_len {P : Program} {w : World} {K : PySem.W.Frag} {mg : Str → Option Value} {base : Heap} {a : Adr} (T : Txt K mg a)  (cdv : Value) (A : Around) (outer : List PySem.Env) (s : Shared) (H : Hp) (E : XK) (hr : Room 0 (A.deeper (PyProof.Rows.envOfC "Marks.__len__" (defScope s_Marks_d_len) s.heap.objs.size a.f_Marks_d_len cdv))) :
    PSs (cxOf (L2.CX P w) P w K mg base n_Marks_d_len "Marks.__len__" (defScope s_Marks_d_len) a.f_Marks_d_len cdv A outer s H E) (defBody s_Marks_d_len) (tDS K (fun cls d _ H => E cls d H) (B_Marks_d_len a)) := by
  have tk : Takes (cxOf (L2.CX P w) P w K mg base n_Marks_d_len "Marks.__len__" (defScope s_Marks_d_len) a.f_Marks_d_len cdv A outer s H E) (fun cls d _ H => E cls d H) := takes_of rfl rfl rfl rfl
  exact (ss_one (s_ret (e_bi call_len bd_len T.z_len (a_cons (e_fld T.o_Marks.cl T.n_Marks_names (e_var 0) (by rfl)) a_nil))))
theorem len_Marks_d_len {a : Adr} {ds μ Ξ Φ} (h : w_Marks_d_len a ds μ Ξ Φ) : ds.length = 1 := by obtain ⟨_, _, rfl, _⟩ := h; rfl
theorem read_Marks_d_len {a : Adr} : ∀ ds μ Ξ Φ, w_Marks_d_len a ds μ Ξ Φ → B_Marks_d_len a { nx := fun _ μ' => Φ .non μ', rt := Φ } (startG n_Marks_d_len ds) μ (fun _ => Ξ) := by
  rintro ds μ Ξ Φ ⟨s, xs, rfl, hs, h⟩
  unfold B_Marks_d_len
  walk_at "d"
  refine fld_Marks hs ?_
  walk_at "d"
  rw [List.length_map]; exact h
theorem ok_Marks_d_len {P : Program} {w : World} {K : PySem.W.Frag} {mg : Str → Option Value} {base : Heap} {a : Adr} (T : Txt K mg a)  : FnD P w K mg base 1 a.f_Marks_d_len (w_Marks_d_len a) := by
  obtain ⟨fd, F⟩ := T.F_Marks_d_len.ex
  exact fn_D F (F.binds (ps := ["self"]) fun _ _ _ _ _ _ us hl => match us, hl with | [_], _ => rfl) sc_Marks_d_len (fun ds μ Ξ Φ h => len_Marks_d_len h) fun cdv A outer s H E hr => ⟨B_Marks_d_len a, D_Marks_d_len T  cdv A outer s H E hr, fun ds μ Ξ Φ h => read_Marks_d_len ds μ Ξ Φ h⟩

/-- _law_distinct -/
abbrev n_law_distinct : List Str := ["members", "found", "member"]
theorem sc_law_distinct : FnScope n_law_distinct ["members"] (defScope s_law_distinct) := ⟨rfl, rfl, rfl, by decide +kernel, rfl, by decide +kernel, by decide +kernel⟩
def B_law_distinct (a : Adr) : TDS :=
  (dSeq (dAsg (dLstM dNil) (gNm 1)) (dSeq (dFor (dIt (dVar 0)) (gNm 2) (dIf (dTest (dOp (oIn true) (dVar 2) (dVar 1))) (dDrop (dBm isLis mAppend (dVar 1) (dCons (dVar 2) dNil))) dNext)) (dRet (dFrz (dVar 1)))))
theorem D_law_distinct {P : Program} {w : World} {K : PySem.W.Frag} {mg : Str → Option Value} {base : Heap} {a : Adr} (T : Txt K mg a)  (cdv : Value) (A : Around) (outer : List PySem.Env) (s : Shared) (H : Hp) (E : XK) (hr : Room 0 (A.deeper (PyProof.Rows.envOfC "_law_distinct" (defScope s_law_distinct) s.heap.objs.size a.f_law_distinct cdv))) :
    PSs (cxOf (L2.CX P w) P w K mg base n_law_distinct "_law_distinct" (defScope s_law_distinct) a.f_law_distinct cdv A outer s H E) (defBody s_law_distinct) (tDS K (fun cls d _ H => E cls d H) (B_law_distinct a)) := by
  have tk : Takes (cxOf (L2.CX P w) P w K mg base n_law_distinct "_law_distinct" (defScope s_law_distinct) a.f_law_distinct cdv A outer s H E) (fun cls d _ H => E cls d H) := takes_of rfl rfl rfl rfl
  exact (ss_cons (s_set 1 sc_law_distinct.nd (e_lstM a_nil)) (ss_cons (s_for (passes_of rfl) rfl (i_seq (e_var 0)) (g_name 2 sc_law_distinct.nd) (ss_one (s_if (t_cmp op_notIn_seq od_in (e_var 2) (e_var 1)) (ss_one (s_expr (e_bm PySem.F.plainAttrs_list PySem.F.slot_list_append PySem.F.type_list_append mt_append md_append (e_var 1) (a_cons (e_var 2) a_nil)))) ss_nil))) (ss_one (s_ret (e_frz (e_var 1))))))
theorem len_law_distinct {a : Adr} {ds μ Ξ Φ} (h : w_law_distinct a ds μ Ξ Φ) : ds.length = 1 := by obtain ⟨_, _, rfl, _⟩ := h; rfl
theorem read_law_distinct {a : Adr} : ∀ ds μ Ξ Φ, w_law_distinct a ds μ Ξ Φ → B_law_distinct a { nx := fun _ μ' => Φ .non μ', rt := Φ } (startG n_law_distinct ds) μ (fun _ => Ξ) := by
  rintro ds μ Ξ Φ ⟨d, xs, rfl, hd0, hz, h⟩
  unfold B_law_distinct
  walk_at "d"
  refine ⟨sz_of (by decide), fun p hp => ?_⟩
  walk_at "d"
  refine ⟨_, hd0 _, ?_⟩
  refine ⟨fun i γ' μ' => i ≤ xs.length ∧ (∃ o, γ' = [some d, some (.adr p), o]) ∧ μ' = updM μ p (.lst (sL (dd (xs.take i)))), ⟨Nat.zero_le _, ⟨none, rfl⟩, rfl⟩, fun _ _ _ _ => grd_any hd0, ?_, ?_⟩
  · rintro i d' γ' μ' hd ⟨_, ⟨o, rfl⟩, rfl⟩
    rw [List.getElem?_map] at hd
    cases hx : xs[i]? with
    | none => rw [hx] at hd; cases hd
    | some x =>
      rw [hx] at hd
      cases hd
      have hi := (List.getElem?_eq_some_iff.mp hx).1
      have e1 : dd (xs.take (i + 1)) = if x ∈ dd (xs.take i) then dd (xs.take i) else dd (xs.take i) ++ [x] := by rw [List.take_succ, hx]; exact dd_snoc _ x
      walk_at "d"
      refine oNotIn_strs (items_adr updM_same) ?_
      walk_at "d"
      refine ite_nd (fun q => ?_) fun q => ?_
      · walk_at "d"
        refine ⟨isLis_adr updM_same, ?_⟩
        walk_at "d"
        have := dd_len (xs.take i)
        refine mAppend_i updM_same (sz_lt (by rw [List.length_map]; rw [List.length_take] at this; omega)) ⟨hi, ⟨_, rfl⟩, ?_⟩
        rw [updM_updM, e1, if_neg q, sL, sL, List.map_append]; rfl
      · walk_at "d"
        exact ⟨hi, ⟨_, rfl⟩, by rw [e1, if_pos q]⟩
  · rintro γ' μ' ⟨_, ⟨o, rfl⟩, rfl⟩
    have e0 : xs.take ((sL xs).length) = xs := by rw [List.length_map]; exact List.take_of_length_le (Nat.le_refl _)
    rw [e0]
    walk_at "d"
    refine frzE_l updM_same ?_
    rw [delM_updM hp]
    exact h
theorem ok_law_distinct {P : Program} {w : World} {K : PySem.W.Frag} {mg : Str → Option Value} {base : Heap} {a : Adr} (T : Txt K mg a)  : FnD P w K mg base 1 a.f_law_distinct (w_law_distinct a) := by
  obtain ⟨fd, F⟩ := T.F_law_distinct.ex
  exact fn_D F (F.binds (ps := ["members"]) fun _ _ _ _ _ _ us hl => match us, hl with | [_], _ => rfl) sc_law_distinct (fun ds μ Ξ Φ h => len_law_distinct h) fun cdv A outer s H E hr => ⟨B_law_distinct a, D_law_distinct T  cdv A outer s H E hr, fun ds μ Ξ Φ h => read_law_distinct ds μ Ξ Φ h⟩

/-- _law_alphabet -/
abbrev n_law_alphabet : List Str := ["names", "name"]
theorem sc_law_alphabet : FnScope n_law_alphabet ["names"] (defScope s_law_alphabet) := ⟨rfl, rfl, rfl, by decide +kernel, rfl, by decide +kernel, by decide +kernel⟩
def B_law_alphabet (a : Adr) : TDS :=
  (dRet (dBi bSorted (dCons (dLc (dIt (dCall (w_law_distinct a) (dCons (dVar 0) dNil))) (cNm 1) dYes (dBi bStr (dCons (dVar 1) dNil)) [1]) dNil)))
theorem D_law_alphabet {P : Program} {w : World} {K : PySem.W.Frag} {mg : Str → Option Value} {base : Heap} {a : Adr} (T : Txt K mg a) (G_law_distinct : FnD P w K mg base 1 a.f_law_distinct (w_law_distinct a)) (cdv : Value) (A : Around) (outer : List PySem.Env) (s : Shared) (H : Hp) (E : XK) (hr : Room 1 (A.deeper (PyProof.Rows.envOfC "_law_alphabet" (defScope s_law_alphabet) s.heap.objs.size a.f_law_alphabet cdv))) :
    PSs (cxOf (L2.CX P w) P w K mg base n_law_alphabet "_law_alphabet" (defScope s_law_alphabet) a.f_law_alphabet cdv A outer s H E) (defBody s_law_alphabet) (tDS K (fun cls d _ H => E cls d H) (B_law_alphabet a)) := by
  have tk : Takes (cxOf (L2.CX P w) P w K mg base n_law_alphabet "_law_alphabet" (defScope s_law_alphabet) a.f_law_alphabet cdv A outer s H E) (fun cls d _ H => E cls d H) := takes_of rfl rfl rfl rfl
  exact (ss_one (s_ret (e_bi cr_sortedS bd_sorted T.z_sorted (a_cons (e_lc (own := [("name", 1)]) rfl sc_law_alphabet.nd (ct_name 1) (i_seq (e_call (cal_def G_law_distinct (hr.mono (by decide)) tk) T.g_law_distinct T.F_law_distinct.kp (a_cons (e_var 0) a_nil))) (blkOk_by (own := [("name", 1)]) (N := n_law_alphabet) (sc := defScope s_law_alphabet) (by decide +kernel)) (fun _ _ _ _ _ => (pg_name (i := 1) sc_law_alphabet.nd rfl (by first | exact .inl rfl | exact .inr rfl))) (fun _ _ _ _ _ => ts_nil) (fun _ _ _ _ _ => (e_bt SkE.call_str_str bd_str T.z_str (a_cons (e_var 1) a_nil)))) a_nil))))
theorem len_law_alphabet {a : Adr} {ds μ Ξ Φ} (h : w_law_alphabet a ds μ Ξ Φ) : ds.length = 1 := by obtain ⟨_, _, rfl, _⟩ := h; rfl
theorem read_law_alphabet {a : Adr} : ∀ ds μ Ξ Φ, w_law_alphabet a ds μ Ξ Φ → B_law_alphabet a { nx := fun _ μ' => Φ .non μ', rt := Φ } (startG n_law_alphabet ds) μ (fun _ => Ξ) := by
  rintro ds μ Ξ Φ ⟨d, xs, rfl, hd0, hz, h⟩
  unfold B_law_alphabet
  walk_at "d"
  have := dd_len xs
  refine ⟨d, xs, rfl, hd0, hz, ?_⟩
  refine ⟨_, rfl, ?_⟩
  refine lc_pure D.str D.str (sz_of (by omega)) trivial (fun x _ U h => ?_) ?_
  · walk_at "d"
    exact h
  · walk_at "d"
    exact ⟨_, dd xs, rfl, rfl, by omega, fun ys hp hso => h ys (perm_set hp hso fun _ => Iff.rfl)⟩
theorem ok_law_alphabet {P : Program} {w : World} {K : PySem.W.Frag} {mg : Str → Option Value} {base : Heap} {a : Adr} (T : Txt K mg a) (G_law_distinct : FnD P w K mg base 1 a.f_law_distinct (w_law_distinct a)) : FnD P w K mg base 2 a.f_law_alphabet (w_law_alphabet a) := by
  obtain ⟨fd, F⟩ := T.F_law_alphabet.ex
  exact fn_D F (F.binds (ps := ["names"]) fun _ _ _ _ _ _ us hl => match us, hl with | [_], _ => rfl) sc_law_alphabet (fun ds μ Ξ Φ h => len_law_alphabet h) fun cdv A outer s H E hr => ⟨B_law_alphabet a, D_law_alphabet T G_law_distinct cdv A outer s H E hr, fun ds μ Ξ Φ h => read_law_alphabet ds μ Ξ Φ h⟩

theorem own2 {C : Addr} {op : (Str → Prop) → (Str → Prop) → Str → Prop} {s o : Addr} {xs ys : List Str} {μ : Mu} {Φ : KD} (hs : μ s = some (MkM C xs)) (ho : μ o = some (MkM C ys)) (hz : xs.length + ys.length < 64)
    (h : ∀ p zs, μ p = none → SetOf zs (op (· ∈ xs) (· ∈ ys)) → Φ (.adr p) (updM μ p (MkM C zs))) : oOwnB C (w2 C op) (.adr s) (.adr o) μ Φ := ⟨⟨_, ins_adr hs⟩, ⟨_, ins_adr ho⟩, s, o, xs, ys, rfl, hs, ho, hz, h⟩
theorem SetOf.to {ys : List Str} {p q : Str → Prop} (h : SetOf ys p) (e : ∀ z, p z ↔ q z) : SetOf ys q := ⟨h.1, fun z => (h.2 z).trans (e z)⟩
theorem setOf_one {xs ys : List Str} {p q : Str → Prop} (h1 : SetOf xs p) (h2 : SetOf ys q) (e : ∀ z, p z ↔ q z) : xs = ys := srt_one h1.1 h2.1 fun z => (h1.2 z).trans ((e z).trans (h2.2 z).symm)
theorem nd_le : ∀ {xs ys : List Str}, xs.Nodup → (∀ z ∈ xs, z ∈ ys) → xs.length ≤ ys.length
  | [], ys, _, _ => Nat.zero_le _
  | x :: xs, ys, nd, h => by
    have nd2 := List.nodup_cons.mp nd
    have hx := h x List.mem_cons_self
    have := nd_le (xs := xs) (ys := ys.erase x) nd2.2 fun z hz => by
      refine (List.mem_erase_of_ne (fun e => ?_)).mpr (h z (List.mem_cons_of_mem _ hz))
      subst e; exact nd2.1 hz
    rw [List.length_erase_of_mem hx] at this
    have : 0 < ys.length := List.length_pos_of_mem hx
    rw [List.length_cons]; omega
theorem nd_len {xs ys : List Str} (h1 : xs.Nodup) (h2 : ys.Nodup) (e : ∀ z, z ∈ xs ↔ z ∈ ys) : xs.length = ys.length := Nat.le_antisymm (nd_le h1 fun z => (e z).mp) (nd_le h2 fun z => (e z).mpr)
theorem SetOf.len {xs ys : List Str} {p : Str → Prop} (h : SetOf xs p) (e : ∀ z, p z → z ∈ ys) : xs.length ≤ ys.length := nd_le h.1.nodup fun z hz => e z ((h.2 z).mp hz)
theorem keep {μ : Mu} {p a : Addr} {o m : MO} (hp : μ p = none) (h : μ a = some m) : updM μ p o a = some m := upd_at (mu_ne h hp) h
theorem list_Marks {C : Addr} {μ : Mu} {s : Addr} {xs : List Str} {Φ : KD} (h : μ s = some (MkM C xs)) (hz : xs.length < 64) (k : Φ (.lst (sL xs)) μ) : bOwnList C "names" [.adr s] μ Φ := ⟨_, _, _, _, rfl, ins_adr h, rfl, rfl, sz_lt (by rw [List.length_map]; omega), k⟩
theorem lenM {a : Adr} {μ : Mu} {s : Addr} {xs : List Str} {Φ : KD} (h : μ s = some (MkM a.C_Marks xs)) (hz : xs.length < 64) (k : Φ (.int xs.length) μ) : bOwnLen a.C_Marks (w_Marks_d_len a) [.adr s] μ Φ := ⟨_, _, rfl, ins_adr h, s, xs, rfl, h, _, rfl, by omega, by omega, k⟩
theorem ne_same {xs ys : List Str} {μ : Mu} {Φ : KD} (e : xs = ys) (h1 : ∀ x ∈ ys, PyData.strOk x = true) (h : Φ (.bl false) μ) : oEq true (.lst (sL xs)) (.lst (sL ys)) μ Φ := by
  subst e
  exact oNe_strs h1 h1 (by rw [decide_eq_true rfl]; exact h)
theorem eq_same {xs ys : List Str} {μ : Mu} {Φ : KD} (e : xs = ys) (h1 : ∀ x ∈ ys, PyData.strOk x = true) (h : Φ (.bl true) μ) : oEq false (.lst (sL xs)) (.lst (sL ys)) μ Φ := by
  subst e
  exact oEq_strs h1 h1 (by rw [decide_eq_true rfl]; exact h)
theorem ior_Marks {a : Adr} {μ : Mu} {s o : Addr} {xs ys : List Str} {Φ : KD} (hs : μ s = some (MkM a.C_Marks xs)) (ho : μ o = some (MkM a.C_Marks ys)) (h1 : Srt xs) (h2 : Srt ys) (hz : xs.length + ys.length < 64)
    (h : ∀ zs, SetOf zs (pOr (· ∈ xs) (· ∈ ys)) → Φ (.adr s) (updM μ s (MkM a.C_Marks zs))) : oOwnI a.C_Marks (w_Marks_d_ior a) (.adr s) (.adr o) μ Φ := ⟨⟨_, ins_adr hs⟩, s, o, xs, ys, rfl, hs, ho, h1, h2, hz, h⟩
theorem alph {a : Adr} {xs : List Str} {μ : Mu} {Ξ : XF} {Φ : KD} (hz : xs.length < 64) (h : ∀ ys, SetOf ys (· ∈ xs) → Φ (.lst (sL ys)) μ) : w_law_alphabet a [.lst (sL xs)] μ Ξ Φ := ⟨_, xs, rfl, fun _ => rfl, hz, h⟩
theorem names_of {ys : List Str} {p q : Str → Prop} (h : SetOf ys p) (hn : ∀ x, p x → q x) : ∀ x ∈ ys, q x := fun x hx => hn x ((h.2 x).mp hx)

/-- Book.__init__ -/
abbrev n_Book_d_init : List Str := ["self", "engine", "marks", "reads", "read", "pair", "names", "name", "mark", "enters", "through"]
theorem sc_Book_d_init : FnScope n_Book_d_init ["self", "engine", "marks", "reads"] (defScope s_Book_d_init) := ⟨rfl, rfl, rfl, by decide +kernel, rfl, by decide +kernel, by decide +kernel⟩
def B_Book_d_init (a : Adr) : TDS :=
  (dSeq (dSFld a.C_Book "engine" (dVar 0) (dVar 1)) (dSeq (dSFld a.C_Book "marks" (dVar 0) (dBi bList (dCons (dVar 2) dNil))) (dSeq (dSFld a.C_Book "reads" (dVar 0) (dLc (dIt (dVar 3)) (cTp [9, 10]) dYes (dTup (dCons (dBi bTupleF (dCons (dVar 9) dNil)) (dCons (dBi bTupleF (dCons (dVar 10) dNil)) dNil))) [9, 10])) (dSeq (dSFld a.C_Book "rules" (dVar 0) dNewT) (dSeq (dIf (dOr (dNot (dTru (dCall (w_are_names a) (dCons (dFld a.C_Book "marks" (dVar 0)) (dCons (dC (.int 4)) dNil))))) (dTest (dOp (oEq true) (dBi bLen (dCons (dFld a.C_Book "reads" (dVar 0)) dNil)) (dBi bLen (dCons (dFld a.C_Engine "passes" (dVar 1)) dNil))))) (dRaise a.C_BadBook) dNext) (dSeq (dAsg (dLstM dNil) (gNm 4)) (dSeq (dFor (dIt (dFld a.C_Book "reads" (dVar 0))) (gNm 5) (dFor (dIt (dVar 5)) (gNm 6) (dFor (dIt (dVar 6)) (gNm 7) (dSeq (dIf (dOr (dTest (dOp (oIn true) (dVar 7) (dFld a.C_Book "marks" (dVar 0)))) (dTest (dOp oGt (dBmF mCountT (dVar 6) (dCons (dVar 7) dNil)) (dC (.int 1))))) (dRaise a.C_BadBook) dNext) (dDrop (dBm isLis mAppend (dVar 4) (dCons (dVar 7) dNil))))))) (dGh (dFor (dIt (dFld a.C_Book "marks" (dVar 0))) (gNm 8) (dIf (dTest (dOp (oIn true) (dVar 8) (dVar 4))) (dRaise a.C_BadBook) dNext))))))))))
theorem D_Book_d_init {P : Program} {w : World} {K : PySem.W.Frag} {mg : Str → Option Value} {base : Heap} {a : Adr} (T : Txt K mg a) (G_are_names : FnD P w K mg base 2 a.f_are_names (w_are_names a)) (cdv : Value) (A : Around) (outer : List PySem.Env) (s : Shared) (H : Hp) (E : XK) (hr : Room 2 (A.deeper (PyProof.Rows.envOfC "Book.__init__" (defScope s_Book_d_init) s.heap.objs.size a.f_Book_d_init cdv))) :
    PSs (cxOf (L2.CX P w) P w K mg base n_Book_d_init "Book.__init__" (defScope s_Book_d_init) a.f_Book_d_init cdv A outer s H E) (defBody s_Book_d_init) (tDS K (fun cls d _ H => E cls d H) (B_Book_d_init a)) := by
  have tk : Takes (cxOf (L2.CX P w) P w K mg base n_Book_d_init "Book.__init__" (defScope s_Book_d_init) a.f_Book_d_init cdv A outer s H E) (fun cls d _ H => E cls d H) := takes_of rfl rfl rfl rfl
  exact (ss_cons (s_fld T.o_Book.cl T.n_Book_engine (e_var 0) (e_var 1)) (ss_cons (s_fld T.o_Book.cl T.n_Book_marks (e_var 0) (e_bt call_list_of bd_list T.z_list (a_cons (e_var 2) a_nil))) (ss_cons (s_fld T.o_Book.cl T.n_Book_reads (e_var 0) (e_lc (own := [("enters", 9), ("through", 10)]) rfl sc_Book_d_init.nd (ct_tup [9, 10]) (i_seq (e_var 3)) (blkOk_by (own := [("enters", 9), ("through", 10)]) (N := n_Book_d_init) (sc := defScope s_Book_d_init) (by decide +kernel)) (fun _ _ _ _ _ => (pg_tup rfl (pgs_cons (pg_name (i := 9) sc_Book_d_init.nd rfl (by first | exact .inl rfl | exact .inr rfl)) (pgs_cons (pg_name (i := 10) sc_Book_d_init.nd rfl (by first | exact .inl rfl | exact .inr rfl)) pgs_nil)))) (fun _ _ _ _ _ => ts_nil) (fun _ _ _ _ _ => (e_tup (a_cons (e_bt call_tuple_fz bd_tupleF T.z_tuple (a_cons (e_var 9) a_nil)) (a_cons (e_bt call_tuple_fz bd_tupleF T.z_tuple (a_cons (e_var 10) a_nil)) a_nil)))))) (ss_cons (s_fld T.o_Book.cl T.n_Book_rules (e_var 0) e_newT) (ss_cons (s_if (PW.pt (w_or (t_not (t_tru (e_call (cal_def G_are_names (hr.mono (by decide)) tk) T.g_are_names T.F_are_names.kp (a_cons (e_fld T.o_Book.cl T.n_Book_marks (e_var 0) (by rfl)) (a_cons e_int a_nil))))) (w_or1 (t_cmp (op_neA hr) od_ne (e_bi call_len bd_len T.z_len (a_cons (e_fld T.o_Book.cl T.n_Book_reads (e_var 0) (by rfl)) a_nil)) (e_bi call_len bd_len T.z_len (a_cons (e_fld T.o_Engine.cl T.n_Engine_passes (e_var 1) (by rfl)) a_nil)))))) (ss_one (s_raise rfl tk T.g_BadBook T.x_BadBook)) ss_nil) (ss_cons (s_set 4 sc_Book_d_init.nd (e_lstM a_nil)) (ss_cons (s_for (passes_of rfl) rfl (i_seq (e_fld T.o_Book.cl T.n_Book_reads (e_var 0) (by rfl))) (g_name 5 sc_Book_d_init.nd) (ss_one (s_for (passes_of rfl) rfl (i_seq (e_var 5)) (g_name 6 sc_Book_d_init.nd) (ss_one (s_for (passes_of rfl) rfl (i_seq (e_var 6)) (g_name 7 sc_Book_d_init.nd) (ss_cons (s_if (PW.pt (w_or (t_cmp op_notIn_seq od_in (e_var 7) (e_fld T.o_Book.cl T.n_Book_marks (e_var 0) (by rfl))) (w_or1 (t_cmp op_gt od_gt (e_bmF PySem.F.slot_tuple_count PySem.F.type_tuple_count mt_tcountS md_countT (e_var 6) (a_cons (e_var 7) a_nil)) e_int)))) (ss_one (s_raise rfl tk T.g_BadBook T.x_BadBook)) ss_nil) (ss_one (s_expr (e_bm PySem.F.plainAttrs_list PySem.F.slot_list_append PySem.F.type_list_append mt_append md_append (e_var 4) (a_cons (e_var 7) a_nil)))))))))) (ss_one (s_gh (s_for (passes_of rfl) rfl (i_seq (e_fld T.o_Book.cl T.n_Book_marks (e_var 0) (by rfl))) (g_name 8 sc_Book_d_init.nd) (ss_one (s_if (t_cmp op_notIn_seq od_in (e_var 8) (e_var 4)) (ss_one (s_raise rfl tk T.g_BadBook T.x_BadBook)) ss_nil))))))))))))
theorem bTupleF_seq {g : Bool} {xs : List D} {μ : Mu} {Φ : KD} (h : Φ (.ftup xs) μ) : bTupleF [seqD g xs] μ Φ := by
  cases g with
  | true => exact ⟨_, xs, rfl, .inr ⟨rfl, h⟩⟩
  | false => exact ⟨_, xs, rfl, .inl ⟨rfl, h⟩⟩
theorem len_Book_d_init {a : Adr} {ds μ Ξ Φ} (h : w_Book_d_init a ds μ Ξ Φ) : ds.length = 4 := by obtain ⟨_, _, _, rfl, _⟩ := h; rfl
theorem read_Book_d_init {a : Adr} : ∀ ds μ Ξ Φ, w_Book_d_init a ds μ Ξ Φ → B_Book_d_init a { nx := fun _ μ' => Φ .non μ', rt := Φ } (startG n_Book_d_init ds) μ (fun _ => Ξ) := by
  rintro ds μ Ξ Φ ⟨b, B, g, rfl, hB, hb, h⟩
  unfold B_Book_d_init
  walk_at "d"
  refine ⟨b, [], rfl, hb, by simp, ?_⟩
  walk_at "d"
  refine bList_items (xs := sL B.marks) rfl ?_
  walk_at "d"
  refine ⟨b, _, rfl, updM_same, putD_lt (by simp), ?_⟩
  rw [updM_updM]
  walk_at "d"
  have hm := hB.marks
  have m4 := names_le hm
  have l3 := hB.l3
  refine lc_pure (xs := B.reads) (fun p => D.tup [seqD g (sL p.1), seqD g (sL p.2)]) (fun p => D.tup [.ftup (sL p.1), .ftup (sL p.2)]) (sz_of (by omega)) trivial (fun p hp U hU => ?_) ?_
  · refine ⟨_, rfl, rfl, ?_⟩
    walk_at "d"
    refine bTupleF_seq ?_
    walk_at "d"
    refine bTupleF_seq ?_
    walk_at "d"
    exact ⟨sz_of (by simp), hU⟩
  · walk_at "d"
    refine ⟨b, _, rfl, updM_same, putD_lt (putD_lt (by simp)), ?_⟩
    rw [updM_updM]
    walk_at "d"
    intro r hr
    have br : b ≠ r := fun e => by subst e; rw [updM_same] at hr; cases hr
    rw [updM_ne (Ne.symm br)] at hr
    walk_at "d"
    refine ⟨b, _, rfl, by rw [updM_ne br, updM_same], putD_lt (putD_lt (putD_lt (by simp))), ?_⟩
    rw [updM_upd2 br]
    have e2 : putD "rules" (D.adr r) (putD "reads" (D.lst (List.map (fun p => D.tup [.ftup (sL p.1), .ftup (sL p.2)]) B.reads)) (putD "marks" (D.lst (sL B.marks)) (putD "engine" (D.ins a.C_Engine B.E.flds) []))) = (B.flds a.C_Engine (.adr r)) := rfl
    rw [e2]
    have mb : ∀ m, updM (updM μ b (.ins a.C_Book (B.flds a.C_Engine (.adr r)))) r m b = some (.ins a.C_Book (B.flds a.C_Engine (.adr r))) := fun m => by rw [updM_ne br, updM_same]
    have fin := h r hr
    generalize hμ1 : updM (updM μ b (.ins a.C_Book (B.flds a.C_Engine (.adr r)))) r (.dT []) = μ1 at fin ⊢
    have mb : μ1 b = some (.ins a.C_Book (B.flds a.C_Engine (.adr r))) := by rw [← hμ1]; exact mb _
    clear hμ1
    walk_at "d"
    refine ⟨_, _, ins_adr mb, rfl, ?_⟩
    walk_at "d"
    refine ⟨_, B.marks, 4, rfl, rfl, by omega, names_len hm, ?_⟩
    rw [hm]
    walk_at "d"
    refine ⟨_, _, ins_adr mb, rfl, ?_⟩
    walk_at "d"
    refine ⟨_, _, rfl, rfl, ?_⟩
    walk_at "d"
    have l1 : decide ((B.readD.length : Int) = (B.E.passD.length : Int)) = true := decide_eq_true (by unfold Bk.readD Eng.passD; rw [List.length_map, List.length_map, hB.len])
    rw [l1]
    walk_at "d"
    refine ⟨sz_of (by decide), fun q hq => ?_⟩
    have qb : q ≠ b := fun e => by subst e; rw [mb] at hq; cases hq
    have mb2 : ∀ m, updM μ1 q m b = some (.ins a.C_Book (B.flds a.C_Engine (.adr r))) := fun m => by rw [updM_ne (Ne.symm qb)]; exact mb
    walk_at "d"
    refine ⟨_, _, ins_adr (mb2 _), rfl, ?_⟩
    refine ⟨_, rfl, ?_⟩
    have cnt1 : ∀ (xs : List Str) (x : Str), xs.Nodup → xs.count x ≤ 1 := fun xs x h => List.nodup_iff_count.mp h x
    have lenp : ∀ xs : List Str, xs.Nodup → (∀ z ∈ xs, z ∈ B.marks) → xs.length ≤ 4 := fun xs nd sb => Nat.le_trans (nd_le nd sb) (by omega)
    refine for_pre (xs := B.reads) (fun p => D.tup [.ftup (sL p.1), .ftup (sL p.2)]) (fun ps γ' μ' => ∃ o5 o6 o7 rs, γ' = [some (.adr b), some (.ins a.C_Engine B.E.flds), some (.lst (sL B.marks)), some (.lst (B.readIn g)), some (.adr q), o5, o6, o7, none, none, none] ∧ μ' = updM μ1 q (.lst (sL rs)) ∧ rs.length ≤ 8 * ps.length ∧ ∀ p ∈ ps, ∀ z, z ∈ p.1 ∨ z ∈ p.2 → z ∈ rs) ⟨none, none, none, [], rfl, rfl, by simp, by simp⟩ (fun _ _ _ _ => trivial) ?_ ?_
    · rintro ps p zs ep γ' μ' ⟨o5, o6, o7, rs, rfl, rfl, hl, hrs⟩ U hU
      have pin : p ∈ B.reads := by rw [ep]; simp
      have pl : ps.length + 1 ≤ 3 := by have := congrArg List.length ep; rw [List.length_append, List.length_cons] at this; omega
      obtain ⟨nd1, nd2⟩ := hB.nd p pin
      have sb := hB.sub p pin
      walk_at "d"
      refine for_pre (xs := [p.1, p.2]) (fun x => D.ftup (sL x)) (fun qs γ' μ' => ∃ o6 o7 ts, γ' = [some (.adr b), some (.ins a.C_Engine B.E.flds), some (.lst (sL B.marks)), some (.lst (B.readIn g)), some (.adr q), some (.tup [.ftup (sL p.1), .ftup (sL p.2)]), o6, o7, none, none, none] ∧ μ' = updM μ1 q (.lst (sL ts)) ∧ ts.length ≤ 8 * ps.length + 4 * qs.length ∧ (∀ z ∈ rs, z ∈ ts) ∧ ∀ x ∈ qs, ∀ z ∈ x, z ∈ ts) ⟨o6, o7, rs, rfl, rfl, by simpa using hl, fun _ h => h, by simp⟩ (fun _ _ _ _ => trivial) ?_ ?_
      · rintro qs x ws eq γ' μ' ⟨o6, o7, ts, rfl, rfl, hl2, hts, hqs⟩ V hV
        have xin : x = p.1 ∨ x = p.2 := by have : x ∈ [p.1, p.2] := by rw [eq]; simp
                                           simpa using this
        have xnd : x.Nodup := by rcases xin with rfl | rfl <;> assumption
        have xsb : ∀ z ∈ x, z ∈ B.marks := fun z hz => sb z (by rcases xin with rfl | rfl <;> simp [hz])
        have x4 := lenp x xnd xsb
        have ql : qs.length + 1 ≤ 2 := by have := congrArg List.length eq; rw [List.length_append, List.length_cons] at this; simp at this; omega
        walk_at "d"
        refine ⟨_, rfl, ?_⟩
        refine for_pre (xs := x) D.str (fun ys γ' μ' => ∃ o7, γ' = [some (.adr b), some (.ins a.C_Engine B.E.flds), some (.lst (sL B.marks)), some (.lst (B.readIn g)), some (.adr q), some (.tup [.ftup (sL p.1), .ftup (sL p.2)]), some (.ftup (sL x)), o7, none, none, none] ∧ μ' = updM μ1 q (.lst (sL (ts ++ ys)))) ⟨o7, rfl, by simp⟩ (fun _ _ _ _ => trivial) ?_ ?_
        · rintro ys y us ey γ' μ' ⟨o7, rfl, rfl⟩ W hW
          have yin : y ∈ x := by rw [ey]; simp
          have yl : ys.length + 1 ≤ x.length := by have := congrArg List.length ey; rw [List.length_append, List.length_cons] at this; omega
          walk_at "d"
          refine ⟨_, _, ins_adr (mb2 _), rfl, ?_⟩
          refine oNotIn_strs rfl ?_
          rw [decide_eq_true (xsb y yin)]
          walk_at "d"
          refine ⟨_, rfl, ?_⟩
          walk_at "d"
          refine ⟨x, y, rfl, rfl, ?_⟩
          walk_at "d"
          have c1 := cnt1 x y xnd
          rw [decide_eq_false (by omega)]
          walk_at "d"
          refine ⟨isLis_adr updM_same, ?_⟩
          walk_at "d"
          refine mAppend_i updM_same (sz_lt (by rw [List.length_map, List.length_append]; omega)) ?_
          refine hW _ _ ⟨_, rfl, ?_⟩
          rw [updM_updM, ← List.append_assoc]
          simp [sL]
        · rintro γ' μ' ⟨o7, rfl, rfl⟩
          refine hV _ _ ⟨_, _, ts ++ x, rfl, rfl, by rw [List.length_append, List.length_append]; simp; omega, fun z hz => List.mem_append_left _ (hts z hz), fun x' hx' z hz => ?_⟩
          rcases List.mem_append.mp hx' with hx' | hx'
          · exact List.mem_append_left _ (hqs x' hx' z hz)
          · rw [List.mem_singleton.mp hx'] at hz; exact List.mem_append_right _ hz
      · rintro γ' μ' ⟨o6, o7, ts, rfl, rfl, hl2, hts, hqs⟩
        refine hU _ _ ⟨_, _, _, ts, rfl, rfl, by simp at hl2 ⊢; omega, fun p' hp' z hz => ?_⟩
        rcases List.mem_append.mp hp' with hp' | hp'
        · exact hts z (hrs p' hp' z hz)
        · rw [List.mem_singleton.mp hp'] at hz
          rcases hz with hz | hz
          · exact hqs p.1 (by simp) z hz
          · exact hqs p.2 (by simp) z hz
    · rintro γ' μ' ⟨o5, o6, o7, rs, rfl, rfl, hl, hrs⟩
      walk_at "d"
      refine ⟨_, _, ins_adr (mb2 _), rfl, ?_⟩
      refine ⟨_, rfl, ?_⟩
      refine for_pure (xs := B.marks) D.str (fun γ' => ∃ o8, γ' = [some (.adr b), some (.ins a.C_Engine B.E.flds), some (.lst (sL B.marks)), some (.lst (B.readIn g)), some (.adr q), o5, o6, o7, o8, none, none]) ⟨none, rfl⟩ trivial ?_ ?_
      · rintro x hx γ' ⟨o8, rfl⟩ U hU
        obtain ⟨p, hp, hz⟩ := hB.all x hx
        walk_at "d"
        refine oNotIn_strs (items_adr updM_same) ?_
        rw [decide_eq_true (hrs p hp x hz)]
        walk_at "d"
        exact hU _ ⟨_, rfl⟩
      · rintro γ' ⟨o8, rfl⟩
        refine .fgt μ1 (fun x m hx => ?_) (.done ?_)
        · have : x ≠ q := fun e => by subst e; rw [hq] at hx; cases hx
          rw [updM_ne this]; exact hx
        · exact fin
theorem ok_Book_d_init {P : Program} {w : World} {K : PySem.W.Frag} {mg : Str → Option Value} {base : Heap} {a : Adr} (T : Txt K mg a) (G_are_names : FnD P w K mg base 2 a.f_are_names (w_are_names a)) : FnD P w K mg base 3 a.f_Book_d_init (w_Book_d_init a) := by
  obtain ⟨fd, F⟩ := T.F_Book_d_init.ex
  exact fn_D F (F.binds (ps := ["self", "engine", "marks", "reads"]) fun _ _ _ _ _ _ us hl => match us, hl with | [_, _, _, _], _ => rfl) sc_Book_d_init (fun ds μ Ξ Φ h => len_Book_d_init h) fun cdv A outer s H E hr => ⟨B_Book_d_init a, D_Book_d_init T G_are_names cdv A outer s H E hr, fun ds μ Ξ Φ h => read_Book_d_init ds μ Ξ Φ h⟩

/-- Book.places -/
abbrev n_Book_places : List Str := ["self", "event"]
theorem sc_Book_places : FnScope n_Book_places ["self", "event"] (defScope s_Book_places) := ⟨rfl, rfl, rfl, by decide +kernel, rfl, by decide +kernel, by decide +kernel⟩
def B_Book_places (a : Adr) : TDS :=
  (dSeq (dIf (dTest (dOp (oEq false) (dVar 1) (dC (.str "fence")))) (dRet (dTup (dCons (dC (.str "up")) dNil))) dNext) (dSeq (dIf (dTest (dOp (oEq false) (dVar 1) (dC (.str "remove")))) (dRet (dSlTT (dC (.ktup (k_EDIT_PLACES.map D.str))) (dPart (dC (.int 1))) dNoPart)) dNext) (dSeq (dIf (dTest (dOp (oIn false) (dVar 1) (dC (.ktup (k_WORDS.map D.str))))) (dRet (dC (.ktup (k_EDIT_PLACES.map D.str)))) dNext) (dSeq (dIf (dTest (dOp (oIn false) (dVar 1) (dFld a.C_Engine "attributes" (dFld a.C_Book "engine" (dVar 0))))) (dRet (dC (.ktup (k_CHANGE_PLACES.map D.str)))) dNext) (dRet (dTup dNil))))))
theorem D_Book_places {P : Program} {w : World} {K : PySem.W.Frag} {mg : Str → Option Value} {base : Heap} {a : Adr} (T : Txt K mg a)  (cdv : Value) (A : Around) (outer : List PySem.Env) (s : Shared) (H : Hp) (E : XK) (hr : Room 0 (A.deeper (PyProof.Rows.envOfC "Book.places" (defScope s_Book_places) s.heap.objs.size a.f_Book_places cdv))) :
    PSs (cxOf (L2.CX P w) P w K mg base n_Book_places "Book.places" (defScope s_Book_places) a.f_Book_places cdv A outer s H E) (defBody s_Book_places) (tDS K (fun cls d _ H => E cls d H) (B_Book_places a)) := by
  have tk : Takes (cxOf (L2.CX P w) P w K mg base n_Book_places "Book.places" (defScope s_Book_places) a.f_Book_places cdv A outer s H E) (fun cls d _ H => E cls d H) := takes_of rfl rfl rfl rfl
  exact (ss_cons (s_if (t_cmp (op_eqA hr) od_eq (e_var 1) e_str) (ss_one (s_ret (e_tup (a_cons e_str a_nil)))) ss_nil) (ss_cons (s_if (t_cmp (op_eqA hr) od_eq (e_var 1) e_str) (ss_one (s_ret (e_slT (e_gtup T.c_EDIT_PLACES T.k_EDIT_PLACES) (o_some e_int) o_none))) ss_nil) (ss_cons (s_if (t_cmp op_in_seq od_in (e_var 1) (e_gtup T.c_WORDS T.k_WORDS)) (ss_one (s_ret (e_gtup T.c_EDIT_PLACES T.k_EDIT_PLACES))) ss_nil) (ss_cons (s_if (t_cmp op_in_seq od_in (e_var 1) (e_fld T.o_Engine.cl T.n_Engine_attributes (e_fld T.o_Book.cl T.n_Book_engine (e_var 0) (by rfl)) (by rfl))) (ss_one (s_ret (e_gtup T.c_CHANGE_PLACES T.k_CHANGE_PLACES))) ss_nil) (ss_one (s_ret (e_tup a_nil)))))))
/-- Book.has_rule -/
abbrev n_Book_has_rule : List Str := ["self", "at", "kind", "event", "place"]
theorem sc_Book_has_rule : FnScope n_Book_has_rule ["self", "at"] (defScope s_Book_has_rule) := ⟨rfl, rfl, rfl, by decide +kernel, rfl, by decide +kernel, by decide +kernel⟩
def B_Book_has_rule (a : Adr) : TDS :=
  (dSeq (dAsg (dVar 1) (gTp 3 (gCn (gNm 2) (gCn (gNm 3) (gCn (gNm 4) gNl))))) (dRet (dAndV (dOp (oIn false) (dVar 2) (dFld a.C_Engine "kinds" (dFld a.C_Book "engine" (dVar 0)))) (dOp (oIn false) (dVar 4) (dMeth a.C_Book "places" (w_Book_places a) (dVar 0) (dCons (dVar 3) dNil))))))
theorem D_Book_has_rule {P : Program} {w : World} {K : PySem.W.Frag} {mg : Str → Option Value} {base : Heap} {a : Adr} (T : Txt K mg a) (G_Book_places : FnD P w K mg base 1 a.f_Book_places (w_Book_places a)) (cdv : Value) (A : Around) (outer : List PySem.Env) (s : Shared) (H : Hp) (E : XK) (hr : Room 1 (A.deeper (PyProof.Rows.envOfC "Book.has_rule" (defScope s_Book_has_rule) s.heap.objs.size a.f_Book_has_rule cdv))) :
    PSs (cxOf (L2.CX P w) P w K mg base n_Book_has_rule "Book.has_rule" (defScope s_Book_has_rule) a.f_Book_has_rule cdv A outer s H E) (defBody s_Book_has_rule) (tDS K (fun cls d _ H => E cls d H) (B_Book_has_rule a)) := by
  have tk : Takes (cxOf (L2.CX P w) P w K mg base n_Book_has_rule "Book.has_rule" (defScope s_Book_has_rule) a.f_Book_has_rule cdv A outer s H E) (fun cls d _ H => E cls d H) := takes_of rfl rfl rfl rfl
  exact (ss_cons (s_asg (e_var 1) (g_tup rfl (gs_cons (g_name 2 sc_Book_has_rule.nd) (gs_cons (g_name 3 sc_Book_has_rule.nd) (gs_cons (g_name 4 sc_Book_has_rule.nd) gs_nil))))) (ss_one (s_ret (e_and (e_cmp op_in_seq od_in (e_var 2) (e_fld T.o_Engine.cl T.n_Engine_kinds (e_fld T.o_Book.cl T.n_Book_engine (e_var 0) (by rfl)) (by rfl))) (e_one (e_cmp op_in_seq od_in (e_var 4) (e_meth (cal_def G_Book_places (hr.mono (by decide)) tk) T.o_Book.cl T.mt_Book_places (e_var 0) (a_cons (e_var 3) a_nil))))))))
/-- Book.is_way -/
abbrev n_Book_is_way : List Str := ["self", "mark", "enters", "through"]
theorem sc_Book_is_way : FnScope n_Book_is_way ["self", "mark"] (defScope s_Book_is_way) := ⟨rfl, rfl, rfl, by decide +kernel, rfl, by decide +kernel, by decide +kernel⟩
def B_Book_is_way (a : Adr) : TDS :=
  (dRet (dBi bAny (dCons (dLc (dIt (dFld a.C_Book "reads" (dVar 0))) (cTp [2, 3]) dYes (dOp (oIn false) (dVar 1) (dVar 3)) [2, 3]) dNil)))
theorem D_Book_is_way {P : Program} {w : World} {K : PySem.W.Frag} {mg : Str → Option Value} {base : Heap} {a : Adr} (T : Txt K mg a)  (cdv : Value) (A : Around) (outer : List PySem.Env) (s : Shared) (H : Hp) (E : XK) (hr : Room 0 (A.deeper (PyProof.Rows.envOfC "Book.is_way" (defScope s_Book_is_way) s.heap.objs.size a.f_Book_is_way cdv))) :
    PSs (cxOf (L2.CX P w) P w K mg base n_Book_is_way "Book.is_way" (defScope s_Book_is_way) a.f_Book_is_way cdv A outer s H E) (defBody s_Book_is_way) (tDS K (fun cls d _ H => E cls d H) (B_Book_is_way a)) := by
  have tk : Takes (cxOf (L2.CX P w) P w K mg base n_Book_is_way "Book.is_way" (defScope s_Book_is_way) a.f_Book_is_way cdv A outer s H E) (fun cls d _ H => E cls d H) := takes_of rfl rfl rfl rfl
  exact (ss_one (s_ret (e_bi (cr_any rfl) bd_any T.z_any (a_cons (e_lc (own := [("enters", 2), ("through", 3)]) rfl sc_Book_is_way.nd (ct_tup [2, 3]) (i_seq (e_fld T.o_Book.cl T.n_Book_reads (e_var 0) (by rfl))) (blkOk_by (own := [("enters", 2), ("through", 3)]) (N := n_Book_is_way) (sc := defScope s_Book_is_way) (by decide +kernel)) (fun _ _ _ _ _ => (pg_tup rfl (pgs_cons (pg_name (i := 2) sc_Book_is_way.nd rfl (by first | exact .inl rfl | exact .inr rfl)) (pgs_cons (pg_name (i := 3) sc_Book_is_way.nd rfl (by first | exact .inl rfl | exact .inr rfl)) pgs_nil)))) (fun _ _ _ _ _ => ts_nil) (fun _ _ _ _ _ => (e_cmp op_in_seq od_in (e_var 1) (e_var 3)))) a_nil))))
/-- Book.enters -/
abbrev n_Book_enters : List Str := ["self", "number", "names"]
theorem sc_Book_enters : FnScope n_Book_enters ["self", "number"] (defScope s_Book_enters) := ⟨rfl, rfl, rfl, by decide +kernel, rfl, by decide +kernel, by decide +kernel⟩
def B_Book_enters (a : Adr) : TDS :=
  (dSeq (dAsg (dOp oIx (dOp oIx (dFld a.C_Book "reads" (dVar 0)) (dVar 1)) (dC (.int 0))) (gNm 2)) (dRet (dCall (wMake a.C_Marks (w_Marks_d_init a)) (dStar (dVar 2) dNil))))
theorem D_Book_enters {P : Program} {w : World} {K : PySem.W.Frag} {mg : Str → Option Value} {base : Heap} {a : Adr} (T : Txt K mg a) (G_Marks_d_init : FnD P w K mg base 1 a.f_Marks_d_init (w_Marks_d_init a)) (cdv : Value) (A : Around) (outer : List PySem.Env) (s : Shared) (H : Hp) (E : XK) (hr : Room 2 (A.deeper (PyProof.Rows.envOfC "Book.enters" (defScope s_Book_enters) s.heap.objs.size a.f_Book_enters cdv))) :
    PSs (cxOf (L2.CX P w) P w K mg base n_Book_enters "Book.enters" (defScope s_Book_enters) a.f_Book_enters cdv A outer s H E) (defBody s_Book_enters) (tDS K (fun cls d _ H => E cls d H) (B_Book_enters a)) := by
  have tk : Takes (cxOf (L2.CX P w) P w K mg base n_Book_enters "Book.enters" (defScope s_Book_enters) a.f_Book_enters cdv A outer s H E) (fun cls d _ H => E cls d H) := takes_of rfl rfl rfl rfl
  exact (ss_cons (s_set 2 sc_Book_enters.nd (e_ix (e_ix (e_fld T.o_Book.cl T.n_Book_reads (e_var 0) (by rfl)) (e_var 1)) e_int)) (ss_one (s_ret (e_callS (cal_class T.mk_Marks G_Marks_d_init (hr.mono (by decide)) tk) T.g_Marks T.mk_Marks.kp (e_var 2)))))
/-- Book.through -/
abbrev n_Book_through : List Str := ["self", "number", "names"]
theorem sc_Book_through : FnScope n_Book_through ["self", "number"] (defScope s_Book_through) := ⟨rfl, rfl, rfl, by decide +kernel, rfl, by decide +kernel, by decide +kernel⟩
def B_Book_through (a : Adr) : TDS :=
  (dSeq (dAsg (dOp oIx (dOp oIx (dFld a.C_Book "reads" (dVar 0)) (dVar 1)) (dC (.int 1))) (gNm 2)) (dRet (dCall (wMake a.C_Marks (w_Marks_d_init a)) (dStar (dVar 2) dNil))))
theorem D_Book_through {P : Program} {w : World} {K : PySem.W.Frag} {mg : Str → Option Value} {base : Heap} {a : Adr} (T : Txt K mg a) (G_Marks_d_init : FnD P w K mg base 1 a.f_Marks_d_init (w_Marks_d_init a)) (cdv : Value) (A : Around) (outer : List PySem.Env) (s : Shared) (H : Hp) (E : XK) (hr : Room 2 (A.deeper (PyProof.Rows.envOfC "Book.through" (defScope s_Book_through) s.heap.objs.size a.f_Book_through cdv))) :
    PSs (cxOf (L2.CX P w) P w K mg base n_Book_through "Book.through" (defScope s_Book_through) a.f_Book_through cdv A outer s H E) (defBody s_Book_through) (tDS K (fun cls d _ H => E cls d H) (B_Book_through a)) := by
  have tk : Takes (cxOf (L2.CX P w) P w K mg base n_Book_through "Book.through" (defScope s_Book_through) a.f_Book_through cdv A outer s H E) (fun cls d _ H => E cls d H) := takes_of rfl rfl rfl rfl
  exact (ss_cons (s_set 2 sc_Book_through.nd (e_ix (e_ix (e_fld T.o_Book.cl T.n_Book_reads (e_var 0) (by rfl)) (e_var 1)) e_int)) (ss_one (s_ret (e_callS (cal_class T.mk_Marks G_Marks_d_init (hr.mono (by decide)) tk) T.g_Marks T.mk_Marks.kp (e_var 2)))))
/-- Book.__getitem__ -/
abbrev n_Book_d_getitem : List Str := ["self", "at", "names"]
theorem sc_Book_d_getitem : FnScope n_Book_d_getitem ["self", "at"] (defScope s_Book_d_getitem) := ⟨rfl, rfl, rfl, by decide +kernel, rfl, by decide +kernel, by decide +kernel⟩
def B_Book_d_getitem (a : Adr) : TDS :=
  (dSeq (dIf (dNot (dTru (dMeth a.C_Book "has_rule" (w_Book_has_rule a) (dVar 0) (dCons (dVar 1) dNil)))) (dRaise a.C_BadBook) dNext) (dSeq (dAsg (dDGet2 (dFld a.C_Book "rules" (dVar 0)) (dVar 1) (dTup dNil)) (gNm 2)) (dRet (dCall (wMake a.C_Marks (w_Marks_d_init a)) (dStar (dVar 2) dNil)))))
theorem D_Book_d_getitem {P : Program} {w : World} {K : PySem.W.Frag} {mg : Str → Option Value} {base : Heap} {a : Adr} (T : Txt K mg a) (G_Book_has_rule : FnD P w K mg base 2 a.f_Book_has_rule (w_Book_has_rule a)) (G_Marks_d_init : FnD P w K mg base 1 a.f_Marks_d_init (w_Marks_d_init a)) (cdv : Value) (A : Around) (outer : List PySem.Env) (s : Shared) (H : Hp) (E : XK) (hr : Room 2 (A.deeper (PyProof.Rows.envOfC "Book.__getitem__" (defScope s_Book_d_getitem) s.heap.objs.size a.f_Book_d_getitem cdv))) :
    PSs (cxOf (L2.CX P w) P w K mg base n_Book_d_getitem "Book.__getitem__" (defScope s_Book_d_getitem) a.f_Book_d_getitem cdv A outer s H E) (defBody s_Book_d_getitem) (tDS K (fun cls d _ H => E cls d H) (B_Book_d_getitem a)) := by
  have tk : Takes (cxOf (L2.CX P w) P w K mg base n_Book_d_getitem "Book.__getitem__" (defScope s_Book_d_getitem) a.f_Book_d_getitem cdv A outer s H E) (fun cls d _ H => E cls d H) := takes_of rfl rfl rfl rfl
  exact (ss_cons (s_if (t_not (t_tru (e_meth (cal_def G_Book_has_rule (hr.mono (by decide)) tk) T.o_Book.cl T.mt_Book_has_rule (e_var 0) (a_cons (e_var 1) a_nil)))) (ss_one (s_raise rfl tk T.g_BadBook T.x_BadBook)) ss_nil) (ss_cons (s_set 2 sc_Book_d_getitem.nd (e_dget2 (huD hr) (e_fld T.o_Book.cl T.n_Book_rules (e_var 0) (by rfl)) (e_var 1) (e_tup a_nil))) (ss_one (s_ret (e_callS (cal_class T.mk_Marks G_Marks_d_init (hr.mono (by decide)) tk) T.g_Marks T.mk_Marks.kp (e_var 2))))))
/-- Book.__setitem__ -/
abbrev n_Book_d_setitem : List Str := ["self", "at", "worth", "mark"]
theorem sc_Book_d_setitem : FnScope n_Book_d_setitem ["self", "at", "worth"] (defScope s_Book_d_setitem) := ⟨rfl, rfl, rfl, by decide +kernel, rfl, by decide +kernel, by decide +kernel⟩
def B_Book_d_setitem (a : Adr) : TDS :=
  (dSeq (dIf (dNot (dTru (dMeth a.C_Book "has_rule" (w_Book_has_rule a) (dVar 0) (dCons (dVar 1) dNil)))) (dRaise a.C_BadBook) dNext) (dSeq (dFor (dIt (dFld a.C_Marks "names" (dVar 2))) (gNm 3) (dIf (dOr (dTest (dOp (oIn true) (dVar 3) (dFld a.C_Book "marks" (dVar 0)))) (dAnd (dTest (dOp (oEq false) (dOp oIx (dVar 1) (dC (.int 1))) (dC (.str "fence")))) (dTru (dMeth a.C_Book "is_way" (w_Book_is_way a) (dVar 0) (dCons (dVar 3) dNil))))) (dRaise a.C_BadBook) dNext)) (dAsg (dBi bTuple (dCons (dFld a.C_Marks "names" (dVar 2)) dNil)) (gDx (dFld a.C_Book "rules" (dVar 0)) (dVar 1)))))
theorem D_Book_d_setitem {P : Program} {w : World} {K : PySem.W.Frag} {mg : Str → Option Value} {base : Heap} {a : Adr} (T : Txt K mg a) (G_Book_has_rule : FnD P w K mg base 2 a.f_Book_has_rule (w_Book_has_rule a)) (G_Book_is_way : FnD P w K mg base 1 a.f_Book_is_way (w_Book_is_way a)) (cdv : Value) (A : Around) (outer : List PySem.Env) (s : Shared) (H : Hp) (E : XK) (hr : Room 2 (A.deeper (PyProof.Rows.envOfC "Book.__setitem__" (defScope s_Book_d_setitem) s.heap.objs.size a.f_Book_d_setitem cdv))) :
    PSs (cxOf (L2.CX P w) P w K mg base n_Book_d_setitem "Book.__setitem__" (defScope s_Book_d_setitem) a.f_Book_d_setitem cdv A outer s H E) (defBody s_Book_d_setitem) (tDS K (fun cls d _ H => E cls d H) (B_Book_d_setitem a)) := by
  have tk : Takes (cxOf (L2.CX P w) P w K mg base n_Book_d_setitem "Book.__setitem__" (defScope s_Book_d_setitem) a.f_Book_d_setitem cdv A outer s H E) (fun cls d _ H => E cls d H) := takes_of rfl rfl rfl rfl
  exact (ss_cons (s_if (t_not (t_tru (e_meth (cal_def G_Book_has_rule (hr.mono (by decide)) tk) T.o_Book.cl T.mt_Book_has_rule (e_var 0) (a_cons (e_var 1) a_nil)))) (ss_one (s_raise rfl tk T.g_BadBook T.x_BadBook)) ss_nil) (ss_cons (s_for (passes_of rfl) rfl (i_seq (e_fld T.o_Marks.cl T.n_Marks_names (e_var 2) (by rfl))) (g_name 3 sc_Book_d_setitem.nd) (ss_one (s_if (PW.pt (w_or (t_cmp op_notIn_seq od_in (e_var 3) (e_fld T.o_Book.cl T.n_Book_marks (e_var 0) (by rfl))) (w_or1 (PW.pt (w_and (t_cmp (op_eqA hr) od_eq (e_ix (e_var 1) e_int) e_str) (w_and1 (t_tru (e_meth (cal_def G_Book_is_way (hr.mono (by decide)) tk) T.o_Book.cl T.mt_Book_is_way (e_var 0) (a_cons (e_var 3) a_nil))))))))) (ss_one (s_raise rfl tk T.g_BadBook T.x_BadBook)) ss_nil))) (ss_one (s_asg (e_bt call_tuple_of bd_tuple T.z_tuple (a_cons (e_fld T.o_Marks.cl T.n_Marks_names (e_var 2) (by rfl)) a_nil)) (g_dx (huD hr) (e_fld T.o_Book.cl T.n_Book_rules (e_var 0) (by rfl)) (e_var 1))))))
theorem len_Book_places {a : Adr} {ds μ Ξ Φ} (h : w_Book_places a ds μ Ξ Φ) : ds.length = 2 := by obtain ⟨_, _, _, _, rfl, _⟩ := h; rfl
theorem read_Book_places {a : Adr} : ∀ ds μ Ξ Φ, w_Book_places a ds μ Ξ Φ → B_Book_places a { nx := fun _ μ' => Φ .non μ', rt := Φ } (startG n_Book_places ds) μ (fun _ => Ξ) := by
  rintro ds μ Ξ Φ ⟨sd, B, rd, e, rfl, hs, h⟩
  unfold B_Book_places
  unfold placesB at h
  walk_at "d"
  refine ite_d (fun q => ?_) fun q1 => ?_
  · walk_at "d"
    exact ⟨sz_of (by decide), h _ fun μ' => by rw [if_pos q]; rfl⟩
  rw [if_neg q1] at h
  walk_at "d"
  refine ite_d (fun q => ?_) fun q2 => ?_
  · walk_at "d"
    exact ⟨_, rfl, .inr (by decide), h _ fun μ' => by rw [if_pos q]; rfl⟩
  rw [if_neg q2] at h
  walk_at "d"
  refine oIn_strs (ys := k_WORDS) rfl ?_
  walk_at "d"
  refine ite_d (fun q => ?_) fun q3 => ?_
  · walk_at "d"
    exact h _ fun μ' => by rw [if_pos q]; rfl
  rw [if_neg q3] at h
  walk_at "d"
  refine ⟨_, _, hs, rfl, ?_⟩
  refine ⟨_, _, rfl, rfl, ?_⟩
  refine oIn_strs (ys := B.E.attrs) rfl ?_
  walk_at "d"
  refine ite_d (fun q => ?_) fun q4 => ?_
  · walk_at "d"
    exact h _ fun μ' => by rw [if_pos q]; rfl
  · rw [if_neg q4] at h
    walk_at "d"
    exact ⟨sz_of (by decide), h _ fun μ' => rfl⟩
theorem ok_Book_places {P : Program} {w : World} {K : PySem.W.Frag} {mg : Str → Option Value} {base : Heap} {a : Adr} (T : Txt K mg a)  : FnD P w K mg base 1 a.f_Book_places (w_Book_places a) := by
  obtain ⟨fd, F⟩ := T.F_Book_places.ex
  exact fn_D F (F.binds (ps := ["self", "event"]) fun _ _ _ _ _ _ us hl => match us, hl with | [_, _], _ => rfl) sc_Book_places (fun ds μ Ξ Φ h => len_Book_places h) fun cdv A outer s H E hr => ⟨B_Book_places a, D_Book_places T  cdv A outer s H E hr, fun ds μ Ξ Φ h => read_Book_places ds μ Ξ Φ h⟩
theorem len_Book_has_rule {a : Adr} {ds μ Ξ Φ} (h : w_Book_has_rule a ds μ Ξ Φ) : ds.length = 2 := by obtain ⟨_, _, _, _, _, _, rfl, _⟩ := h; rfl
theorem read_Book_has_rule {a : Adr} : ∀ ds μ Ξ Φ, w_Book_has_rule a ds μ Ξ Φ → B_Book_has_rule a { nx := fun _ μ' => Φ .non μ', rt := Φ } (startG n_Book_has_rule ds) μ (fun _ => Ξ) := by
  rintro ds μ Ξ Φ ⟨sd, B, rd, k, e, p, rfl, hs, h⟩
  unfold B_Book_has_rule
  unfold Bk.has at h
  walk_at "d"
  refine ⟨_, _, hs, rfl, ?_⟩
  refine ⟨_, _, rfl, rfl, ?_⟩
  refine oIn_strs (ys := B.E.kinds) rfl ?_
  walk_at "d"
  cases q : decide (k ∈ B.E.kinds) with
  | false =>
    rw [q] at h
    walk_at "d"
    exact h
  | true =>
    rw [q] at h
    walk_at "d"
    refine ⟨_, hs, rfl, ?_⟩
    walk_at "d"
    refine ⟨sd, B, rd, e, rfl, hs, fun d hd => ?_⟩
    exact oIn_strs (hd μ) h
theorem ok_Book_has_rule {P : Program} {w : World} {K : PySem.W.Frag} {mg : Str → Option Value} {base : Heap} {a : Adr} (T : Txt K mg a) (G_Book_places : FnD P w K mg base 1 a.f_Book_places (w_Book_places a)) : FnD P w K mg base 2 a.f_Book_has_rule (w_Book_has_rule a) := by
  obtain ⟨fd, F⟩ := T.F_Book_has_rule.ex
  exact fn_D F (F.binds (ps := ["self", "at"]) fun _ _ _ _ _ _ us hl => match us, hl with | [_, _], _ => rfl) sc_Book_has_rule (fun ds μ Ξ Φ h => len_Book_has_rule h) fun cdv A outer s H E hr => ⟨B_Book_has_rule a, D_Book_has_rule T G_Book_places cdv A outer s H E hr, fun ds μ Ξ Φ h => read_Book_has_rule ds μ Ξ Φ h⟩
theorem len_Book_is_way {a : Adr} {ds μ Ξ Φ} (h : w_Book_is_way a ds μ Ξ Φ) : ds.length = 2 := by obtain ⟨_, _, _, _, rfl, _⟩ := h; rfl
theorem read_Book_is_way {a : Adr} : ∀ ds μ Ξ Φ, w_Book_is_way a ds μ Ξ Φ → B_Book_is_way a { nx := fun _ μ' => Φ .non μ', rt := Φ } (startG n_Book_is_way ds) μ (fun _ => Ξ) := by
  rintro ds μ Ξ Φ ⟨sd, B, rd, m, rfl, hs, hl, h⟩
  unfold B_Book_is_way
  walk_at "d"
  refine ⟨_, _, hs, rfl, ?_⟩
  refine ⟨_, rfl, ?_⟩
  refine lc_pure (xs := B.reads) (fun p => D.tup [.ftup (sL p.1), .ftup (sL p.2)]) (fun p => D.bl (decide (m ∈ p.2))) (sz_of (by omega)) trivial (fun p hp U hU => ?_) ?_
  · refine ⟨_, rfl, rfl, ?_⟩
    walk_at "d"
    refine oIn_strs rfl ?_
    exact hU
  · walk_at "d"
    have e3 : B.reads.map (fun p => D.bl (decide (m ∈ p.2))) = (B.reads.map fun p => decide (m ∈ p.2)).map D.bl := by rw [List.map_map]; rfl
    rw [e3]
    refine bAny_bls ?_
    rw [List.any_map]
    exact h
theorem ok_Book_is_way {P : Program} {w : World} {K : PySem.W.Frag} {mg : Str → Option Value} {base : Heap} {a : Adr} (T : Txt K mg a)  : FnD P w K mg base 1 a.f_Book_is_way (w_Book_is_way a) := by
  obtain ⟨fd, F⟩ := T.F_Book_is_way.ex
  exact fn_D F (F.binds (ps := ["self", "mark"]) fun _ _ _ _ _ _ us hl => match us, hl with | [_, _], _ => rfl) sc_Book_is_way (fun ds μ Ξ Φ h => len_Book_is_way h) fun cdv A outer s H E hr => ⟨B_Book_is_way a, D_Book_is_way T  cdv A outer s H E hr, fun ds μ Ξ Φ h => read_Book_is_way ds μ Ξ Φ h⟩
theorem wBookSet_len {a : Adr} {pr} {ds μ Ξ Φ} (h : wBookSet a pr ds μ Ξ Φ) : ds.length = 2 := by obtain ⟨_, _, _, _, _, rfl, _⟩ := h; rfl
theorem len_Book_enters {a : Adr} {ds μ Ξ Φ} (h : w_Book_enters a ds μ Ξ Φ) : ds.length = 2 := wBookSet_len h
theorem read_Book_enters {a : Adr} : ∀ ds μ Ξ Φ, w_Book_enters a ds μ Ξ Φ → B_Book_enters a { nx := fun _ μ' => Φ .non μ', rt := Φ } (startG n_Book_enters ds) μ (fun _ => Ξ) := by
  rintro ds μ Ξ Φ ⟨sd, B, rd, i, x, rfl, hs, h0, hx, hz, h⟩
  unfold B_Book_enters
  walk_at "d"
  refine ⟨_, _, hs, rfl, ?_⟩
  walk_at "d"
  refine oIx_items (d := .tup [.ftup (sL x.1), .ftup (sL x.2)]) (x := .lst B.readD) (xs := B.readD) rfl (by have := atIn (xs := B.readD) (j := i.toNat) (x := .tup [.ftup (sL x.1), .ftup (sL x.2)]) (by unfold Bk.readD; rw [List.getElem?_map, hx]; rfl); rwa [Int.toNat_of_nonneg h0] at this) ?_
  walk_at "d"
  refine oIx_items rfl rfl ?_
  walk_at "d"
  refine ⟨_, rfl, ?_⟩
  walk_at "d"
  rw [List.append_nil]
  exact make_Marks hz h
theorem ok_Book_enters {P : Program} {w : World} {K : PySem.W.Frag} {mg : Str → Option Value} {base : Heap} {a : Adr} (T : Txt K mg a) (G_Marks_d_init : FnD P w K mg base 1 a.f_Marks_d_init (w_Marks_d_init a)) : FnD P w K mg base 3 a.f_Book_enters (w_Book_enters a) := by
  obtain ⟨fd, F⟩ := T.F_Book_enters.ex
  exact fn_D F (F.binds (ps := ["self", "number"]) fun _ _ _ _ _ _ us hl => match us, hl with | [_, _], _ => rfl) sc_Book_enters (fun ds μ Ξ Φ h => len_Book_enters h) fun cdv A outer s H E hr => ⟨B_Book_enters a, D_Book_enters T G_Marks_d_init cdv A outer s H E hr, fun ds μ Ξ Φ h => read_Book_enters ds μ Ξ Φ h⟩
theorem len_Book_through {a : Adr} {ds μ Ξ Φ} (h : w_Book_through a ds μ Ξ Φ) : ds.length = 2 := wBookSet_len h
theorem read_Book_through {a : Adr} : ∀ ds μ Ξ Φ, w_Book_through a ds μ Ξ Φ → B_Book_through a { nx := fun _ μ' => Φ .non μ', rt := Φ } (startG n_Book_through ds) μ (fun _ => Ξ) := by
  rintro ds μ Ξ Φ ⟨sd, B, rd, i, x, rfl, hs, h0, hx, hz, h⟩
  unfold B_Book_through
  walk_at "d"
  refine ⟨_, _, hs, rfl, ?_⟩
  walk_at "d"
  refine oIx_items (d := .tup [.ftup (sL x.1), .ftup (sL x.2)]) (x := .lst B.readD) (xs := B.readD) rfl (by have := atIn (xs := B.readD) (j := i.toNat) (x := .tup [.ftup (sL x.1), .ftup (sL x.2)]) (by unfold Bk.readD; rw [List.getElem?_map, hx]; rfl); rwa [Int.toNat_of_nonneg h0] at this) ?_
  walk_at "d"
  refine oIx_items rfl rfl ?_
  walk_at "d"
  refine ⟨_, rfl, ?_⟩
  walk_at "d"
  rw [List.append_nil]
  exact make_Marks hz h
theorem ok_Book_through {P : Program} {w : World} {K : PySem.W.Frag} {mg : Str → Option Value} {base : Heap} {a : Adr} (T : Txt K mg a) (G_Marks_d_init : FnD P w K mg base 1 a.f_Marks_d_init (w_Marks_d_init a)) : FnD P w K mg base 3 a.f_Book_through (w_Book_through a) := by
  obtain ⟨fd, F⟩ := T.F_Book_through.ex
  exact fn_D F (F.binds (ps := ["self", "number"]) fun _ _ _ _ _ _ us hl => match us, hl with | [_, _], _ => rfl) sc_Book_through (fun ds μ Ξ Φ h => len_Book_through h) fun cdv A outer s H E hr => ⟨B_Book_through a, D_Book_through T G_Marks_d_init cdv A outer s H E hr, fun ds μ Ξ Φ h => read_Book_through ds μ Ξ Φ h⟩
theorem len_Book_d_getitem {a : Adr} {ds μ Ξ Φ} (h : w_Book_d_getitem a ds μ Ξ Φ) : ds.length = 2 := by obtain ⟨_, _, _, _, _, _, _, _, rfl, _⟩ := h; rfl
theorem read_Book_d_getitem {a : Adr} : ∀ ds μ Ξ Φ, w_Book_d_getitem a ds μ Ξ Φ → B_Book_d_getitem a { nx := fun _ μ' => Φ .non μ', rt := Φ } (startG n_Book_d_getitem ds) μ (fun _ => Ξ) := by
  rintro ds μ Ξ Φ ⟨sd, B, rd, tab, k, e, p, ns, rfl, hs, ht, hh, hz, hgood, hbad⟩
  unfold B_Book_d_getitem
  walk_at "d"
  refine ⟨_, hs, rfl, ?_⟩
  walk_at "d"
  refine ⟨sd, B, rd, k, e, p, rfl, hs, ?_⟩
  walk_at "d"
  cases q : B.has k e p with
  | false =>
    walk_at "d"
    exact hbad q
  | true =>
    walk_at "d"
    refine ⟨_, _, hs, rfl, .inr ⟨tab, ht⟩, ?_⟩
    walk_at "d"
    refine ⟨sz_of (by decide), valD tab (key3 k e p), by show (dTD μ rd).map _ = _; rw [ht]; rfl, ?_⟩
    rw [hh]
    walk_at "d"
    rw [List.append_nil]
    exact make_Marks hz (hgood q)
theorem ok_Book_d_getitem {P : Program} {w : World} {K : PySem.W.Frag} {mg : Str → Option Value} {base : Heap} {a : Adr} (T : Txt K mg a) (G_Book_has_rule : FnD P w K mg base 2 a.f_Book_has_rule (w_Book_has_rule a)) (G_Marks_d_init : FnD P w K mg base 1 a.f_Marks_d_init (w_Marks_d_init a)) : FnD P w K mg base 3 a.f_Book_d_getitem (w_Book_d_getitem a) := by
  obtain ⟨fd, F⟩ := T.F_Book_d_getitem.ex
  exact fn_D F (F.binds (ps := ["self", "at"]) fun _ _ _ _ _ _ us hl => match us, hl with | [_, _], _ => rfl) sc_Book_d_getitem (fun ds μ Ξ Φ h => len_Book_d_getitem h) fun cdv A outer s H E hr => ⟨B_Book_d_getitem a, D_Book_d_getitem T G_Book_has_rule G_Marks_d_init cdv A outer s H E hr, fun ds μ Ξ Φ h => read_Book_d_getitem ds μ Ξ Φ h⟩
theorem len_Book_d_setitem {a : Adr} {ds μ Ξ Φ} (h : w_Book_d_setitem a ds μ Ξ Φ) : ds.length = 3 := by obtain ⟨_, _, _, _, _, _, _, _, _, rfl, _⟩ := h; rfl
theorem read_Book_d_setitem {a : Adr} : ∀ ds μ Ξ Φ, w_Book_d_setitem a ds μ Ξ Φ → B_Book_d_setitem a { nx := fun _ μ' => Φ .non μ', rt := Φ } (startG n_Book_d_setitem ds) μ (fun _ => Ξ) := by
  rintro ds μ Ξ Φ ⟨sd, B, r, tab, k, e, p, m, ys, rfl, hs, hl3, ht, hz, hm, hgood, hbad⟩
  unfold B_Book_d_setitem
  walk_at "d"
  refine ⟨_, hs, rfl, ?_⟩
  walk_at "d"
  refine ⟨sd, B, _, k, e, p, rfl, hs, ?_⟩
  walk_at "d"
  cases q : B.has k e p with
  | false =>
    rw [q] at hbad
    walk_at "d"
    exact hbad rfl
  | true =>
    rw [q] at hbad hgood
    walk_at "d"
    refine fld_Marks hm ?_
    refine ⟨_, rfl, ?_⟩
    refine for_pre (xs := ys) D.str (fun zs γ' μ' => ∃ o3, γ' = [some sd, some (at3 k e p), some (.adr m), o3] ∧ μ' = μ ∧ zs.all (B.may e) = true) ⟨none, rfl, rfl, rfl⟩ (fun _ _ _ _ => trivial) ?_ ?_
    · rintro zs z us ez γ' μ' ⟨o3, rfl, rfl, hz2⟩ U hU
      have ok : B.may e z = true → U [some sd, some (at3 k e p), some (.adr m), some (.str z)] μ' := fun w => hU _ _ ⟨_, rfl, rfl, by rw [List.all_append, hz2]; simp [w]⟩
      have no : B.may e z = false → Ξ (.ref a.C_BadBook) [] μ' := fun w => hbad (by
        rw [Bool.true_and, ez, List.all_append, List.all_cons, w]; simp)
      unfold Bk.may at ok no
      walk_at "d"
      refine ⟨_, _, hs, rfl, ?_⟩
      refine oNotIn_strs (ys := B.marks) rfl ?_
      cases q1 : decide (z ∈ B.marks) with
      | false =>
        rw [q1] at no
        walk_at "d"
        exact no rfl
      | true =>
        rw [q1] at no ok
        walk_at "d"
        refine oIx_items rfl rfl ?_
        walk_at "d"
        cases q2 : decide (e = "fence") with
        | false =>
          rw [q2] at ok
          walk_at "d"
          exact ok rfl
        | true =>
          rw [q2] at no ok
          walk_at "d"
          refine ⟨_, hs, rfl, ?_⟩
          walk_at "d"
          refine ⟨sd, B, _, z, rfl, hs, hl3, ?_⟩
          walk_at "d"
          cases q3 : B.way z with
          | false =>
            rw [q3] at ok
            walk_at "d"
            exact ok rfl
          | true =>
            rw [q3] at no
            walk_at "d"
            exact no rfl
    · rintro γ' μ' ⟨o3, rfl, rfl, hz2⟩
      walk_at "d"
      refine fld_Marks hm ?_
      walk_at "d"
      refine bTuple_lis rfl ?_
      walk_at "d"
      refine ⟨_, _, hs, rfl, ?_⟩
      walk_at "d"
      exact ⟨r, rfl, .inr ⟨tab, _, ht, rfl, sz_lt (by omega), hgood (by rw [Bool.true_and]; exact hz2)⟩⟩
theorem ok_Book_d_setitem {P : Program} {w : World} {K : PySem.W.Frag} {mg : Str → Option Value} {base : Heap} {a : Adr} (T : Txt K mg a) (G_Book_has_rule : FnD P w K mg base 2 a.f_Book_has_rule (w_Book_has_rule a)) (G_Book_is_way : FnD P w K mg base 1 a.f_Book_is_way (w_Book_is_way a)) : FnD P w K mg base 3 a.f_Book_d_setitem (w_Book_d_setitem a) := by
  obtain ⟨fd, F⟩ := T.F_Book_d_setitem.ex
  exact fn_D F (F.binds (ps := ["self", "at", "worth"]) fun _ _ _ _ _ _ us hl => match us, hl with | [_, _, _], _ => rfl) sc_Book_d_setitem (fun ds μ Ξ Φ h => len_Book_d_setitem h) fun cdv A outer s H E hr => ⟨B_Book_d_setitem a, D_Book_d_setitem T G_Book_has_rule G_Book_is_way cdv A outer s H E hr, fun ds μ Ξ Φ h => read_Book_d_setitem ds μ Ξ Φ h⟩

/-- Book.atoms -/
abbrev n_Book_atoms : List Str := ["self", "found", "kind", "event", "place", "names", "mark"]
theorem sc_Book_atoms : FnScope n_Book_atoms ["self"] (defScope s_Book_atoms) := ⟨rfl, rfl, rfl, by decide +kernel, rfl, by decide +kernel, by decide +kernel⟩
def B_Book_atoms (a : Adr) : TDS :=
  (dSeq (dAsg (dLstM dNil) (gNm 1)) (dSeq (dFor (dIt (dFld a.C_Engine "kinds" (dFld a.C_Book "engine" (dVar 0)))) (gNm 2) (dFor (dIt (dOp oAdd (dC (.ktup (k_WORDS.map D.str))) (dBi bTuple (dCons (dFld a.C_Engine "attributes" (dFld a.C_Book "engine" (dVar 0))) dNil)))) (gNm 3) (dFor (dIt (dMeth a.C_Book "places" (w_Book_places a) (dVar 0) (dCons (dVar 3) dNil))) (gNm 4) (dSeq (dAsg (dDGet2 (dFld a.C_Book "rules" (dVar 0)) (dTup (dCons (dVar 2) (dCons (dVar 3) (dCons (dVar 4) dNil)))) (dTup dNil)) (gNm 5)) (dDrop (dBm isLis mExtend (dVar 1) (dCons (dLc (dIt (dFld a.C_Book "marks" (dVar 0))) (cNm 6) (dTest (dOp (oIn false) (dVar 6) (dVar 5))) (dTup (dCons (dVar 2) (dCons (dVar 3) (dCons (dVar 4) (dCons (dVar 6) dNil))))) [6]) dNil))))))) (dRet (dFrz (dVar 1)))))
theorem D_Book_atoms {P : Program} {w : World} {K : PySem.W.Frag} {mg : Str → Option Value} {base : Heap} {a : Adr} (T : Txt K mg a) (G_Book_places : FnD P w K mg base 1 a.f_Book_places (w_Book_places a)) (cdv : Value) (A : Around) (outer : List PySem.Env) (s : Shared) (H : Hp) (E : XK) (hr : Room 1 (A.deeper (PyProof.Rows.envOfC "Book.atoms" (defScope s_Book_atoms) s.heap.objs.size a.f_Book_atoms cdv))) :
    PSs (cxOf (L2.CX P w) P w K mg base n_Book_atoms "Book.atoms" (defScope s_Book_atoms) a.f_Book_atoms cdv A outer s H E) (defBody s_Book_atoms) (tDS K (fun cls d _ H => E cls d H) (B_Book_atoms a)) := by
  have tk : Takes (cxOf (L2.CX P w) P w K mg base n_Book_atoms "Book.atoms" (defScope s_Book_atoms) a.f_Book_atoms cdv A outer s H E) (fun cls d _ H => E cls d H) := takes_of rfl rfl rfl rfl
  exact (ss_cons (s_set 1 sc_Book_atoms.nd (e_lstM a_nil)) (ss_cons (s_for (passes_of rfl) rfl (i_seq (e_fld T.o_Engine.cl T.n_Engine_kinds (e_fld T.o_Book.cl T.n_Book_engine (e_var 0) (by rfl)) (by rfl))) (g_name 2 sc_Book_atoms.nd) (ss_one (s_for (passes_of rfl) rfl (i_seq (e_bin op_addA od_add (e_gtup T.c_WORDS T.k_WORDS) (e_bt call_tuple_of bd_tuple T.z_tuple (a_cons (e_fld T.o_Engine.cl T.n_Engine_attributes (e_fld T.o_Book.cl T.n_Book_engine (e_var 0) (by rfl)) (by rfl)) a_nil)))) (g_name 3 sc_Book_atoms.nd) (ss_one (s_for (passes_of rfl) rfl (i_seq (e_meth (cal_def G_Book_places (hr.mono (by decide)) tk) T.o_Book.cl T.mt_Book_places (e_var 0) (a_cons (e_var 3) a_nil))) (g_name 4 sc_Book_atoms.nd) (ss_cons (s_set 5 sc_Book_atoms.nd (e_dget2 (huD hr) (e_fld T.o_Book.cl T.n_Book_rules (e_var 0) (by rfl)) (e_tup (a_cons (e_var 2) (a_cons (e_var 3) (a_cons (e_var 4) a_nil)))) (e_tup a_nil))) (ss_one (s_expr (e_bm PySem.F.plainAttrs_list PySem.F.slot_list_extend PySem.F.type_list_extend mt_extend md_extend (e_var 1) (a_cons (e_lc (own := [("mark", 6)]) rfl sc_Book_atoms.nd (ct_name 6) (i_seq (e_fld T.o_Book.cl T.n_Book_marks (e_var 0) (by rfl))) (blkOk_by (own := [("mark", 6)]) (N := n_Book_atoms) (sc := defScope s_Book_atoms) (by decide +kernel)) (fun _ _ _ _ _ => (pg_name (i := 6) sc_Book_atoms.nd rfl (by first | exact .inl rfl | exact .inr rfl))) (fun _ _ _ _ _ => (ts_one (t_cmp op_in_seq od_in (e_var 6) (e_var 5)))) (fun _ _ _ _ _ => (e_tup (a_cons (e_var 2) (a_cons (e_var 3) (a_cons (e_var 4) (a_cons (e_var 6) a_nil))))))) a_nil)))))))))) (ss_one (s_ret (e_frz (e_var 1))))))
theorem len_Book_atoms {a : Adr} {ds μ Ξ Φ} (h : w_Book_atoms a ds μ Ξ Φ) : ds.length = 1 := by obtain ⟨_, _, _, _, _, rfl, _⟩ := h; rfl
theorem flat_le {α : Type} {n : Nat} {f : α → List D} : ∀ {xs : List α}, (∀ x ∈ xs, (f x).length ≤ n) → (xs.flatMap f).length ≤ xs.length * n
  | [], _ => by simp
  | x :: xs, h => by
    rw [List.flatMap_cons, List.length_append, List.length_cons, Nat.succ_mul]
    have := flat_le (xs := xs) fun y hy => h y (by simp [hy])
    have := h x (by simp)
    omega
theorem places_le (attrs : List Str) (e : Str) : (placesB attrs e).length ≤ 4 := by
  unfold placesB
  split
  · simp
  · split
    · simp
    · split
      · simp
      · split <;> simp
def aP (ms : List Str) (f : Str → Str → Str → List Str) (k e p : Str) : List D := (ms.filter fun m => decide (m ∈ f k e p)).map fun m => .tup [.str k, .str e, .str p, .str m]
def aE (attrs ms : List Str) (f : Str → Str → Str → List Str) (k e : Str) : List D := (placesB attrs e).flatMap (aP ms f k e)
def aK (attrs ms : List Str) (f : Str → Str → Str → List Str) (k : Str) : List D := (k_WORDS ++ attrs).flatMap (aE attrs ms f k)
theorem aP_le {ms f k e p} : (aP ms f k e p).length ≤ ms.length := by unfold aP; rw [List.length_map]; exact List.length_filter_le _ _
theorem aE_le {attrs ms f k e} : (aE attrs ms f k e).length ≤ 4 * ms.length := Nat.le_trans (flat_le fun p _ => aP_le) (Nat.mul_le_mul_right _ (places_le attrs e))
theorem aK_le {attrs ms f k} : (aK attrs ms f k).length ≤ (4 + attrs.length) * (4 * ms.length) := by
  have := flat_le (f := aE attrs ms f k) (xs := k_WORDS ++ attrs) fun e _ => aE_le
  rw [List.length_append] at this
  exact this
theorem read_Book_atoms {a : Adr} : ∀ ds μ Ξ Φ, w_Book_atoms a ds μ Ξ Φ → B_Book_atoms a { nx := fun _ μ' => Φ .non μ', rt := Φ } (startG n_Book_atoms ds) μ (fun _ => Ξ) := by
  rintro ds μ Ξ Φ ⟨sd, B, rd, tab, f, rfl, hs, ht, hk, ha, hm, hne, hf, h⟩
  unfold B_Book_atoms
  have kl : ∀ k, (aK B.E.attrs B.marks f k).length ≤ 128 := fun k => Nat.le_trans aK_le (by
    have : (4 + B.E.attrs.length) * (4 * B.marks.length) ≤ 8 * 16 := Nat.mul_le_mul (by omega) (by omega)
    omega)
  have el : ∀ k e, (aE B.E.attrs B.marks f k e).length ≤ 16 := fun k e => Nat.le_trans aE_le (by omega)
  walk_at "d"
  refine ⟨sz_of (by decide), fun q hq => ?_⟩
  have hs2 : ∀ m, insD (updM μ q m) sd = some (a.C_Book, Bk.flds B a.C_Engine rd) := fun m => insD_new hq hs
  have ht2 : ∀ m, dTD (updM μ q m) rd = some tab := fun m => dTD_new hq ht
  walk_at "d"
  refine ⟨_, _, hs2 _, rfl, ?_⟩
  refine ⟨_, _, rfl, rfl, ?_⟩
  refine ⟨_, rfl, ?_⟩
  refine for_pre (xs := B.E.kinds) D.str (fun ks γ' μ' => ∃ o2 o3 o4 o5, γ' = [some sd, some (.adr q), o2, o3, o4, o5, none] ∧ μ' = updM μ q (.lst (ks.flatMap (aK B.E.attrs B.marks f)))) ⟨none, none, none, none, rfl, rfl⟩ (fun _ _ _ _ => trivial) ?_ ?_
  · rintro ks k zs ek γ' μ' ⟨o2, o3, o4, o5, rfl, rfl⟩ U hU
    have kin : k ∈ B.E.kinds := by rw [ek]; simp
    have k3 : ks.length + 1 ≤ 3 := by have := congrArg List.length ek; rw [List.length_append, List.length_cons] at this; omega
    have ksl : (ks.flatMap (aK B.E.attrs B.marks f)).length ≤ ks.length * 128 := flat_le fun k _ => kl k
    walk_at "d"
    refine ⟨_, _, hs2 _, rfl, ?_⟩
    refine ⟨_, _, rfl, rfl, ?_⟩
    walk_at "d"
    refine bTuple_lis rfl ?_
    have toU : ∀ γ2 μ2, (∃ o3 o4 o5, γ2 = [some sd, some (.adr q), some (.str k), o3, o4, o5, none] ∧ μ2 = updM μ q (.lst (ks.flatMap (aK B.E.attrs B.marks f) ++ (k_WORDS ++ B.E.attrs).flatMap (aE B.E.attrs B.marks f k)))) → U γ2 μ2 := by
      have eK : (ks ++ [k]).flatMap (aK B.E.attrs B.marks f) = ks.flatMap (aK B.E.attrs B.marks f) ++ (k_WORDS ++ B.E.attrs).flatMap (aE B.E.attrs B.marks f k) := by rw [List.flatMap_append, List.flatMap_singleton]; rfl
      rintro γ2 μ2 ⟨o3, o4, o5, rfl, rfl⟩
      refine hU _ _ ⟨_, _, _, _, rfl, ?_⟩
      rw [eK]
    have cat : ∀ Ψ : KD, Ψ (.tup (k_WORDS.map D.str ++ sL B.E.attrs)) (updM μ q (.lst (ks.flatMap (aK B.E.attrs B.marks f)))) → B.E.attrs ≠ [] → oAdd (.ktup (k_WORDS.map D.str)) (.tup (sL B.E.attrs)) (updM μ q (.lst (ks.flatMap (aK B.E.attrs B.marks f)))) Ψ := fun Ψ hΨ ne => oAdd_kt (by simp) (by simpa [sL] using ne) (sz_of (by rw [List.length_map, List.length_map]; simp; omega)) hΨ
    refine cat _ ?_ hne
    walk_at "d"
    have e9 : k_WORDS.map D.str ++ sL B.E.attrs = (k_WORDS ++ B.E.attrs).map D.str := by rw [List.map_append]
    rw [e9]
    refine for_pre (xs := k_WORDS ++ B.E.attrs) D.str (fun es γ' μ' => ∃ o3 o4 o5, γ' = [some sd, some (.adr q), some (.str k), o3, o4, o5, none] ∧ μ' = updM μ q (.lst (ks.flatMap (aK B.E.attrs B.marks f) ++ es.flatMap (aE B.E.attrs B.marks f k)))) ⟨o3, o4, o5, rfl, by simp⟩ (fun _ _ _ _ => trivial) ?_ toU
    rintro es e zs2 ee γ' μ' ⟨o3, o4, o5, rfl, rfl⟩ V hV
    have e8 : es.length + 1 ≤ 8 := by have := congrArg List.length ee; rw [List.length_append, List.length_append, List.length_cons] at this; simp at this; omega
    have esl : (es.flatMap (aE B.E.attrs B.marks f k)).length ≤ es.length * 16 := flat_le fun e _ => el k e
    walk_at "d"
    refine ⟨_, hs2 _, rfl, ?_⟩
    walk_at "d"
    refine ⟨sd, B, rd, e, rfl, hs2 _, fun d hd => ?_⟩
    walk_at "d"
    refine ⟨_, hd _, ?_⟩
    refine for_pre (xs := placesB B.E.attrs e) D.str (fun ps γ' μ' => ∃ o4 o5, γ' = [some sd, some (.adr q), some (.str k), some (.str e), o4, o5, none] ∧ μ' = updM μ q (.lst (ks.flatMap (aK B.E.attrs B.marks f) ++ (es.flatMap (aE B.E.attrs B.marks f k) ++ ps.flatMap (aP B.marks f k e))))) ⟨o4, o5, rfl, by simp⟩ (fun ps γ' μ' _ => grd_any hd) ?_ ?_
    · rintro ps p zs3 ep γ' μ' ⟨o4, o5, rfl, rfl⟩ W hW
      have p4 : ps.length + 1 ≤ 4 := by have := congrArg List.length ep; have := places_le B.E.attrs e; rw [List.length_append, List.length_cons] at *; omega
      have psl : (ps.flatMap (aP B.marks f k e)).length ≤ ps.length * 4 := flat_le fun p _ => Nat.le_trans aP_le hm
      walk_at "d"
      refine ⟨_, _, hs2 _, rfl, .inr ⟨tab, ht2 _⟩, ?_⟩
      walk_at "d"
      refine ⟨sz_of (by show 3 ≤ _; decide), ?_⟩
      walk_at "d"
      refine ⟨sz_of (by decide), valD tab (key3 k e p), by show (dTD _ rd).map _ = _; rw [ht2]; rfl, ?_⟩
      rw [hf k e p kin]
      walk_at "d"
      refine ⟨isLis_adr updM_same, ?_⟩
      walk_at "d"
      refine ⟨_, _, hs2 _, rfl, ?_⟩
      refine ⟨_, rfl, ?_⟩
      refine lc_filter (xs := B.marks) D.str (fun m => D.tup [.str k, .str e, .str p, .str m]) (fun m => decide (m ∈ f k e p)) (sz_of (by omega)) trivial (fun m _ T hT => ?_) ?_
      · walk_at "d"
        refine oIn_strs rfl ?_
        walk_at "d"
        refine ite_d (fun w => ?_) fun w => ?_
        · walk_at "d"
          rw [if_pos (by simpa using w)] at hT
          exact ⟨sz_of (by show 4 ≤ _; decide), hT⟩
        · rw [if_neg (by simpa using w)] at hT; exact hT
      · walk_at "d"
        have := aP_le (ms := B.marks) (f := f) (k := k) (e := e) (p := p)
        refine ⟨q, _, _, aP B.marks f k e p, rfl, rfl, updM_same, rfl, rfl, sz_of (by rw [List.length_append, List.length_append]; omega), ?_⟩
        rw [updM_updM]
        refine hW _ _ ⟨_, _, rfl, ?_⟩
        rw [List.flatMap_append, List.flatMap_singleton, List.append_assoc, List.append_assoc]
    · rintro γ' μ' ⟨o4, o5, rfl, rfl⟩
      refine hV _ _ ⟨_, _, _, rfl, ?_⟩
      rw [List.flatMap_append, List.flatMap_singleton]; rfl
  · rintro γ' μ' ⟨o2, o3, o4, o5, rfl, rfl⟩
    walk_at "d"
    refine frzE_l updM_same ?_
    rw [delM_updM hq]
    exact h
theorem ok_Book_atoms {P : Program} {w : World} {K : PySem.W.Frag} {mg : Str → Option Value} {base : Heap} {a : Adr} (T : Txt K mg a) (G_Book_places : FnD P w K mg base 1 a.f_Book_places (w_Book_places a)) : FnD P w K mg base 2 a.f_Book_atoms (w_Book_atoms a) := by
  obtain ⟨fd, F⟩ := T.F_Book_atoms.ex
  exact fn_D F (F.binds (ps := ["self"]) fun _ _ _ _ _ _ us hl => match us, hl with | [_], _ => rfl) sc_Book_atoms (fun ds μ Ξ Φ h => len_Book_atoms h) fun cdv A outer s H E hr => ⟨B_Book_atoms a, D_Book_atoms T G_Book_places cdv A outer s H E hr, fun ds μ Ξ Φ h => read_Book_atoms ds μ Ξ Φ h⟩

/-- _law_engine -/
abbrev n_law_engine : List Str := ["tape", "kind_most", "name_most", "late", "kinds", "menu", "names", "passes", "name", "engine", "row", "kind"]
theorem sc_law_engine : FnScope n_law_engine ["tape", "kind_most", "name_most", "late"] (defScope s_law_engine) := ⟨rfl, rfl, rfl, by decide +kernel, rfl, by decide +kernel, by decide +kernel⟩
def B_law_engine (a : Adr) : TDS :=
  (dSeq (dAsg (dCall (w_law_kind_names a) (dCons (dVar 0) (dCons (dOp oAdd (dC (.int 1)) (dCall (w_law_pick a) (dCons (dVar 0) (dCons (dVar 1) dNil)))) dNil))) (gNm 4)) (dSeq (dAsg (dLst (dCons (dC (.str "width")) (dCons (dC (.str "x")) (dCons (dC (.str "height")) (dCons (dC (.str "place")) (dCons (dC (.str "baseline")) (dCons (dC (.str "y")) (dCons (dC (.str "parent")) (dCons (dC (.str "w")) (dCons (dC (.str "depth")) (dCons (dC (.str "ab")) (dCons (dC (.str "own")) dNil)))))))))))) (gNm 5)) (dSeq (dAsg (dCall (w_law_some a) (dCons (dVar 0) (dCons (dVar 5) (dCons (dOp oAdd (dC (.int 1)) (dCall (w_law_pick a) (dCons (dVar 0) (dCons (dVar 2) dNil)))) dNil)))) (gNm 6)) (dSeq (dAsg (dLc (dIt (dSl (dVar 6) dNoPart (dPart (dOp oAdd (dC (.int 1)) (dCall (w_law_pick a) (dCons (dVar 0) (dCons (dBi bMin2 (dCons (dC (.int 3)) (dCons (dBi bLen (dCons (dVar 6) dNil)) dNil))) dNil))))))) (cNm 8) dYes (dLst (dCons (dCall (w_law_one a) (dCons (dVar 0) (dCons (dLst (dCons (dC (.str "down")) (dCons (dC (.str "up")) dNil))) dNil))) (dCons (dLstM (dCons (dVar 8) dNil)) dNil))) [8]) (gNm 7)) (dSeq (dGh (dFor (dIt (dSl (dVar 6) (dPart (dBi bLen (dCons (dVar 7) dNil))) dNoPart)) (gNm 8) (dDrop (dBm isLis mAppend (dOp oIx (dOp oIx (dVar 7) (dCall (w_law_pick a) (dCons (dVar 0) (dCons (dBi bLen (dCons (dVar 7) dNil)) dNil)))) (dC (.int 1))) (dCons (dVar 8) dNil))))) (dSeq (dAsg (dDisp [((dC (.str "kinds")), (dVar 4)), ((dC (.str "passes")), (dVar 7)), ((dC (.str "sources")), dNewK), ((dC (.str "names")), (dLst dNil))]) (gNm 9)) (dSeq (dFor (dIt (dVar 7)) (gNm 10) (dAsg (dOp oAdd (dOp oDGet (dVar 9) (dC (.str "names"))) (dOp oIx (dVar 10) (dC (.int 1)))) (gDx (dVar 9) (dC (.str "names"))))) (dSeq (dGh (dFor (dIt (dVar 4)) (gNm 11) (dSeq (dAsg dNewK (gDx (dOp oDGet (dVar 9) (dC (.str "sources"))) (dVar 11))) (dGh (dFor (dIt (dOp oDGet (dVar 9) (dC (.str "names")))) (gNm 8) (dAsg (dCall (w_law_sources a) (dCons (dVar 0) (dCons (dVar 9) (dCons (dVar 8) (dCons (dVar 3) dNil))))) (gDx (dOp oDGet (dOp oDGet (dVar 9) (dC (.str "sources"))) (dVar 11)) (dVar 8)))))))) (dRet (dVar 9))))))))))
theorem D_law_engine {P : Program} {w : World} {K : PySem.W.Frag} {mg : Str → Option Value} {base : Heap} {a : Adr} (T : Txt K mg a) (G_law_kind_names : FnD P w K mg base 3 a.f_law_kind_names (w_law_kind_names a)) (G_law_pick : FnD P w K mg base 1 a.f_law_pick (w_law_pick a)) (G_law_some : FnD P w K mg base 2 a.f_law_some (w_law_some a)) (G_law_one : FnD P w K mg base 2 a.f_law_one (w_law_one a)) (G_law_sources : FnD P w K mg base 3 a.f_law_sources (w_law_sources a)) (cdv : Value) (A : Around) (outer : List PySem.Env) (s : Shared) (H : Hp) (E : XK) (hr : Room 3 (A.deeper (PyProof.Rows.envOfC "_law_engine" (defScope s_law_engine) s.heap.objs.size a.f_law_engine cdv))) :
    PSs (cxOf (L2.CX P w) P w K mg base n_law_engine "_law_engine" (defScope s_law_engine) a.f_law_engine cdv A outer s H E) (defBody s_law_engine) (tDS K (fun cls d _ H => E cls d H) (B_law_engine a)) := by
  have tk : Takes (cxOf (L2.CX P w) P w K mg base n_law_engine "_law_engine" (defScope s_law_engine) a.f_law_engine cdv A outer s H E) (fun cls d _ H => E cls d H) := takes_of rfl rfl rfl rfl
  exact (ss_cons (s_set 4 sc_law_engine.nd (e_call (cal_def G_law_kind_names (hr.mono (by decide)) tk) T.g_law_kind_names T.F_law_kind_names.kp (a_cons (e_var 0) (a_cons (e_bin op_addA od_add e_int (e_call (cal_def G_law_pick (hr.mono (by decide)) tk) T.g_law_pick T.F_law_pick.kp (a_cons (e_var 0) (a_cons (e_var 1) a_nil)))) a_nil)))) (ss_cons (s_set 5 sc_law_engine.nd (e_lst (a_cons e_str (a_cons e_str (a_cons e_str (a_cons e_str (a_cons e_str (a_cons e_str (a_cons e_str (a_cons e_str (a_cons e_str (a_cons e_str (a_cons e_str a_nil))))))))))))) (ss_cons (s_set 6 sc_law_engine.nd (e_call (cal_def G_law_some (hr.mono (by decide)) tk) T.g_law_some T.F_law_some.kp (a_cons (e_var 0) (a_cons (e_var 5) (a_cons (e_bin op_addA od_add e_int (e_call (cal_def G_law_pick (hr.mono (by decide)) tk) T.g_law_pick T.F_law_pick.kp (a_cons (e_var 0) (a_cons (e_var 2) a_nil)))) a_nil))))) (ss_cons (s_setLc (own := [("name", 8)]) 7 rfl sc_law_engine.nd (ct_name 8) (i_seq (e_sl (e_var 6) o_none (o_some (e_bin op_addA od_add e_int (e_call (cal_def G_law_pick (hr.mono (by decide)) tk) T.g_law_pick T.F_law_pick.kp (a_cons (e_var 0) (a_cons (e_bi (call_min2 rfl) bd_min2 T.z_min (a_cons e_int (a_cons (e_bi call_len bd_len T.z_len (a_cons (e_var 6) a_nil)) a_nil))) a_nil))))))) (blkOk_by (own := [("name", 8)]) (N := n_law_engine) (sc := defScope s_law_engine) (by decide +kernel)) (fun _ _ _ _ _ => (pg_name (i := 8) sc_law_engine.nd rfl (by first | exact .inl rfl | exact .inr rfl))) (fun _ _ _ _ _ => ts_nil) (fun _ _ _ _ _ => (e_lst (a_cons (e_call (cal_def G_law_one (hr.mono (by decide)) takes0) T.g_law_one T.F_law_one.kp (a_cons (e_var 0) (a_cons (e_lst (a_cons e_str (a_cons e_str a_nil))) a_nil))) (a_cons (e_lstM (a_cons (e_var 8) a_nil)) a_nil))))) (ss_cons (s_gh (s_for (passes_of rfl) rfl (i_seq (e_sl (e_var 6) (o_some (e_bi call_len bd_len T.z_len (a_cons (e_var 7) a_nil))) o_none)) (g_name 8 sc_law_engine.nd) (ss_one (s_expr (e_bm PySem.F.plainAttrs_list PySem.F.slot_list_append PySem.F.type_list_append mt_append md_append (e_ix (e_ix (e_var 7) (e_call (cal_def G_law_pick (hr.mono (by decide)) tk) T.g_law_pick T.F_law_pick.kp (a_cons (e_var 0) (a_cons (e_bi call_len bd_len T.z_len (a_cons (e_var 7) a_nil)) a_nil)))) e_int) (a_cons (e_var 8) a_nil)))))) (ss_cons (s_set 9 sc_law_engine.nd (e_disp (p_cons e_str (e_var 4) (p_cons e_str (e_var 7) (p_cons e_str e_newK (p_cons e_str (e_lst a_nil) p_nil)))))) (ss_cons (s_for (passes_of rfl) rfl (i_seq (e_var 7)) (g_name 10 sc_law_engine.nd) (ss_one (s_asg (e_bin op_addA od_add (e_dget (huD hr) (e_var 9) e_str) (e_ix (e_var 10) e_int)) (g_dx (huD hr) (e_var 9) e_str)))) (ss_cons (s_gh (s_for (passes_of rfl) rfl (i_seq (e_var 4)) (g_name 11 sc_law_engine.nd) (ss_cons (s_asg e_newK (g_dx (huD hr) (e_dget (huD hr) (e_var 9) e_str) (e_var 11))) (ss_one (s_gh (s_for (passes_of rfl) rfl (i_seq (e_dget (huD hr) (e_var 9) e_str)) (g_name 8 sc_law_engine.nd) (ss_one (s_asg (e_call (cal_def G_law_sources (hr.mono (by decide)) tk) T.g_law_sources T.F_law_sources.kp (a_cons (e_var 0) (a_cons (e_var 9) (a_cons (e_var 8) (a_cons (e_var 3) a_nil))))) (g_dx (huD hr) (e_dget (huD hr) (e_dget (huD hr) (e_var 9) e_str) (e_var 11)) (e_var 8)))))))))) (ss_one (s_ret (e_var 9)))))))))))
theorem len_law_engine {a : Adr} {ds μ Ξ Φ} (h : w_law_engine a ds μ Ξ Φ) : ds.length = 4 := by obtain ⟨_, _, _, _, rfl, _⟩ := h; rfl
abbrev PX := Str × Addr × List Str
def loX (xs : List PX) : List (Addr × MO) := xs.map fun x => (x.2.1, .lst (sL x.2.2))
def pdX (xs : List PX) : List D := xs.map fun x => .lst [.str x.1, .adr x.2.1]
structure PXok (μ : Mu) (tp : Addr) (xs : List PX) : Prop where
  nd : (xs.map (·.2.1)).Nodup
  free : ∀ x ∈ xs, μ x.2.1 = none ∧ x.2.1 ≠ tp
  dir : ∀ x ∈ xs, x.1 = "down" ∨ x.1 = "up"
  ne : ∀ x ∈ xs, x.2.2 ≠ []
theorem loX_ad (xs : List PX) : (loX xs).map (·.1) = xs.map (·.2.1) := by unfold loX; rw [List.map_map]; rfl
theorem PXok.tp {μ : Mu} {tp : Addr} {xs : List PX} (h : PXok μ tp xs) : tp ∉ (loX xs).map (·.1) := fun z => by
  rw [loX_ad] at z
  obtain ⟨x, hx, e⟩ := List.mem_map.mp z
  exact (h.free x hx).2 e
theorem sL_app' (xs ys : List Str) : sL (xs ++ ys) = sL xs ++ sL ys := List.map_append
theorem flat_mem_le {α β : Type} {f : α → List β} {x : α} : ∀ {xs : List α}, x ∈ xs → (f x).length ≤ (xs.flatMap f).length
  | y :: xs, h => by
    rw [List.flatMap_cons, List.length_append]
    rcases List.mem_cons.mp h with rfl | h
    · omega
    · have := flat_mem_le (f := f) h; omega
theorem namesB_of {menu xs : List Str} {n : Int} (hm : menu.all nameB = true) (nd : xs.Nodup) (sb : ∀ x ∈ xs, x ∈ menu) (h1 : 1 ≤ (xs.length : Int)) (h2 : (xs.length : Int) ≤ n) : namesB xs n = true := by
  unfold namesB
  rw [decide_eq_true h1, decide_eq_true h2, decide_eq_true nd]
  simp only [Bool.true_and]
  exact List.all_eq_true.mpr fun x hx => List.all_eq_true.mp hm x (sb x hx)
theorem part_src : ∀ rel ∈ rels, ∀ n ∈ nameMenu, Txt.partition (rel ++ "." ++ n) "." = (rel, ((".":Str), n)) := by decide +kernel
theorem rels_rel : ∀ rel ∈ rels, rel ∈ k_RELATIONS := by decide +kernel
theorem srcB_of {names : List Str} (hn : ∀ n ∈ names, n ∈ nameMenu) {x : Str} (h : IsSrc names x) : srcB names x = true := by
  unfold srcB
  rcases h with h | ⟨rel, hr, n, hn2, rfl⟩
  · rw [decide_eq_true h]; rfl
  · have e := part_src rel hr n (hn n hn2)
    unfold relB
    rw [e, decide_eq_true (rels_rel rel hr), decide_eq_true hn2, decide_eq_true rfl]; simp
theorem menu_len : ∀ n ∈ nameMenu, n.length ≤ 8 := by decide +kernel
theorem srcLen {names : List Str} (hn : ∀ n ∈ names, n ∈ nameMenu) {x : Str} (h : IsSrc names x) : x.length ≤ 100000 := by
  rcases h with rfl | ⟨rel, hr, n, hn2, rfl⟩
  · decide
  · have h1 := rel_len rel hr
    have h2 := menu_len n (hn n hn2)
    have e1 : (rel ++ ".").length = rel.length + 1 := len_app rel "."
    have e2 : (rel ++ "." ++ n).length = (rel ++ ".").length + n.length := len_app _ n
    omega
theorem read_law_engine {a : Adr} : ∀ ds μ Ξ Φ, w_law_engine a ds μ Ξ Φ → B_law_engine a { nx := fun _ μ' => Φ .non μ', rt := Φ } (startG n_law_engine ds) μ (fun _ => Ξ) := by
  rintro ds μ Ξ Φ ⟨tp, m, km, nm, rfl, ht, hm, k1, k3, n1, n4, h⟩
  unfold B_law_engine
  walk_at "d"
  refine ⟨tp, m, km, rfl, ht, hm, by omega, by omega, fun r1 m1 r10 r11 hm1 => ?_⟩
  walk_at "d"
  refine ⟨tp, m1, 1 + r1, rfl, updM_same, hm1, by omega, by simp; omega, fun kinds m2 kl knd ksb hm2 => ?_⟩
  rw [updM_updM]
  walk_at "d"
  refine ⟨sz_of (by decide), ?_⟩
  walk_at "d"
  refine ⟨tp, m2, nm, rfl, updM_same, hm2, by omega, by omega, fun r2 m3 r20 r21 hm3 => ?_⟩
  rw [updM_updM]
  walk_at "d"
  refine ⟨tp, m3, nameMenu, 1 + r2, rfl, updM_same, hm3, .inr rfl, by decide +kernel, by omega, by simp; omega, fun names m4 nl nnd nsb hm4 => ?_⟩
  rw [updM_updM]
  walk_at "d"
  refine ⟨_, _, rfl, ?_⟩
  walk_at "d"
  rw [List.length_map]
  refine ⟨tp, m4, _, rfl, updM_same, hm4, by split <;> omega, by split <;> omega, fun r3 m5 r30 r31 hm5 => ?_⟩
  rw [updM_updM]
  walk_at "d"
  have r3n : r3 < names.length ∧ r3 < 3 := by split at r31 <;> omega
  rw [cut_take (by omega), ← List.map_take]
  generalize hc : (1 + r3).toNat = c
  have c1 : 1 ≤ c ∧ c ≤ names.length ∧ c ≤ 3 := by omega
  refine lc_pre (xs := names.take c) D.str (fun ys acc μ' => ∃ xs m', acc = pdX xs ∧ μ' = ovr (updM μ tp m') (loX xs) ∧ IsTape m' ∧ PXok μ tp xs ∧ xs.map (·.2.2) = ys.map (fun n => [n])) ⟨[], m5, rfl, by rw [show loX [] = [] from rfl, ovr_nil], hm5, ⟨List.nodup_nil, by simp, by simp, by simp⟩, rfl⟩ (fun _ _ _ _ => trivial) ?_ ?_
  · rintro ys n zs en acc μ' ⟨xs, m', rfl, rfl, hm', hx, hys⟩ U hU _
    have xl : xs.length ≤ 3 := by
      have e1 := congrArg List.length hys
      have e2 := congrArg List.length en
      simp only [List.length_map, List.length_append, List.length_cons, List.length_take] at e1 e2
      omega
    walk_at "d"
    refine ⟨sz_of (by decide), ?_⟩
    walk_at "d"
    refine ⟨tp, m', _, _, rfl, by rw [ovr_ne hx.tp, updM_same], hm', rfl, fun _ _ => rfl, by decide, by decide, fun d m6 hd hm6 => ?_⟩
    rw [ovr_in hx.tp, updM_updM]
    have hd : ∃ dir, d = .str dir ∧ (dir = "down" ∨ dir = "up") := by
      simp only [List.mem_cons, List.not_mem_nil, or_false] at hd
      rcases hd with rfl | rfl
      · exact ⟨_, rfl, .inl rfl⟩
      · exact ⟨_, rfl, .inr rfl⟩
    obtain ⟨dir, rfl, hdir⟩ := hd
    walk_at "d"
    refine ⟨sz_of (by show 1 ≤ _; decide), fun p hp => ?_⟩
    obtain ⟨hp1, hp2⟩ := ovr_none hp
    have hptp : p ≠ tp := fun e => by subst e; rw [updM_same] at hp2; cases hp2
    rw [updM_ne hptp] at hp2
    rw [ovr_snoc hp1]
    walk_at "d"
    refine ⟨sz_of (by show 2 ≤ _; decide), ?_⟩
    refine hU _ _ (sz_lt (by unfold pdX; rw [List.length_map]; omega)) ⟨xs ++ [(dir, p, [n])], m6, by unfold pdX; rw [List.map_append]; rfl, by unfold loX; rw [List.map_append]; rfl, hm6, ⟨?_, ?_, ?_, ?_⟩, by rw [List.map_append, List.map_append, hys]; rfl⟩
    · rw [List.map_append]
      refine List.nodup_append.mpr ⟨hx.nd, by simp, fun x hx y hy e => ?_⟩
      simp at hy
      subst hy; subst e
      rw [loX_ad] at hp1
      exact hp1 hx
    · intro x hx2
      rcases List.mem_append.mp hx2 with hx2 | hx2
      · exact hx.free x hx2
      · rw [List.mem_singleton.mp hx2]; exact ⟨hp2, hptp⟩
    · intro x hx2
      rcases List.mem_append.mp hx2 with hx2 | hx2
      · exact hx.dir x hx2
      · rw [List.mem_singleton.mp hx2]; exact hdir
    · intro x hx2
      rcases List.mem_append.mp hx2 with hx2 | hx2
      · exact hx.ne x hx2
      · rw [List.mem_singleton.mp hx2]; simp
  rintro acc μ' ⟨xs, m6, rfl, rfl, hm6, hx, hys⟩
  have xl : xs.length = c := by
    have e1 := congrArg List.length hys
    simp only [List.length_map, List.length_take] at e1
    omega
  have fl : xs.flatMap (·.2.2) = names.take c := by
    have : xs.flatMap (·.2.2) = (xs.map (·.2.2)).flatten := by rw [List.flatMap_def]
    rw [this, hys, ← List.flatMap_def]; simp
  walk_at "d"
  have xl2 : (pdX xs).length = c := by unfold pdX; rw [List.length_map, xl]
  rw [xl2]
  rw [cut_drop (by omega), ← List.map_drop, Int.toNat_natCast]
  clear hm hm1 hm2 hm3 hm4 hm5 m1 m2 m3 m4 m5
  refine for_pre (xs := names.drop c) D.str (fun ns γ' μ' => ∃ xs m' o8, γ' = [some (.adr tp), some (.int km), some (.int nm), some (.bl true), some (.lst (sL kinds)), some (.lst (sL nameMenu)), some (.lst (sL names)), some (.lst (pdX xs)), o8, none, none, none] ∧ μ' = ovr (updM μ tp m') (loX xs) ∧ IsTape m' ∧ PXok μ tp xs ∧ xs.length = c ∧ (xs.flatMap (·.2.2)).Perm (names.take c ++ ns)) ⟨xs, m6, none, rfl, rfl, hm6, hx, xl, by rw [fl, List.append_nil]⟩ (fun _ _ _ _ => trivial) ?_ ?_
  · clear hx xl fl xl2 hys hm6 m6 xs
    rintro ns n zs en γ' μ' ⟨xs, m', o8, rfl, rfl, hm', hx, xl, hp⟩ U hU
    have xl2 : (pdX xs).length = c := by unfold pdX; rw [List.length_map, xl]
    walk_at "d"
    rw [xl2]
    refine ⟨tp, m', c, rfl, by rw [ovr_ne hx.tp, updM_same], hm', by omega, by omega, fun r m2 r0 r1 hm2 => ?_⟩
    rw [ovr_in hx.tp, updM_updM]
    obtain ⟨x, hxm, hxi, hxa⟩ := atI_map (f := fun x : PX => D.lst [.str x.1, .adr x.2.1]) (xs := xs) r0 (by rw [xl]; exact r1)
    refine oIx_items (x := .lst (pdX xs)) (xs := pdX xs) rfl hxa ?_
    walk_at "d"
    refine oIx_items rfl rfl ?_
    have nd2 : ((loX xs).map (·.1)).Nodup := by rw [loX_ad]; exact hx.nd
    have li : (loX xs)[r.toNat]? = some (x.2.1, .lst (sL x.2.2)) := by unfold loX; rw [List.getElem?_map, hxi]; rfl
    have hg : ∀ μ, ovr μ (loX xs) x.2.1 = some (.lst (sL x.2.2)) := fun μ => ovr_get nd2 li
    refine ⟨isLis_adr (hg _), ?_⟩
    walk_at "d"
    have hnl : x.2.2.length ≤ 4 := by
      have e1 := hp.length_eq
      have e2 := congrArg List.length en
      simp only [List.length_append, List.length_cons, List.length_drop, List.length_take] at e1 e2
      have e3 : x.2.2.length ≤ (xs.flatMap (·.2.2)).length := by
        exact flat_mem_le (f := fun x : PX => x.2.2) hxm
      omega
    refine mAppend_i (hg _) (sz_lt (by rw [List.length_map]; omega)) ?_
    have es := ovr_set (μ := updM μ tp m2) (m := .lst (sL x.2.2 ++ [D.str n])) nd2 li
    rw [es]
    let y : PX := (x.1, x.2.1, x.2.2 ++ [n])
    have el : (loX xs).set r.toNat (x.2.1, .lst (sL x.2.2 ++ [D.str n])) = loX (xs.set r.toNat y) := by
      unfold loX; rw [List.map_set]; simp [y, sL]
    have ep : pdX (xs.set r.toNat y) = pdX xs := by
      unfold pdX
      rw [List.map_set]
      have : (xs.map fun x : PX => D.lst [.str x.1, .adr x.2.1])[r.toNat]? = some (D.lst [.str y.1, .adr y.2.1]) := by rw [List.getElem?_map, hxi]; rfl
      obtain ⟨hl, e⟩ := List.getElem?_eq_some_iff.mp this
      rw [← e]; exact List.set_getElem_self hl
    have ea : (xs.set r.toNat y).map (·.2.1) = xs.map (·.2.1) := by
      rw [List.map_set]
      have : (xs.map fun x : PX => x.2.1)[r.toNat]? = some y.2.1 := by rw [List.getElem?_map, hxi]; rfl
      obtain ⟨hl, e⟩ := List.getElem?_eq_some_iff.mp this
      rw [← e]; exact List.set_getElem_self hl
    have mem : ∀ z ∈ xs.set r.toNat y, z ∈ xs ∨ z = y := fun z hz => List.mem_or_eq_of_mem_set hz
    rw [el]
    refine hU _ _ ⟨xs.set r.toNat y, m2, _, by rw [ep]; rfl, rfl, hm2, ⟨by rw [ea]; exact hx.nd, fun z hz => ?_, fun z hz => ?_, fun z hz => ?_⟩, by rw [List.length_set]; exact xl, ?_⟩
    · rcases mem z hz with hz | rfl
      · exact hx.free z hz
      · exact hx.free x hxm
    · rcases mem z hz with hz | rfl
      · exact hx.dir z hz
      · exact hx.dir x hxm
    · rcases mem z hz with hz | rfl
      · exact hx.ne z hz
      · simp [y]
    · refine (flat_set (f := fun x : PX => x.2.2) hxi rfl).trans ?_
      rw [← List.append_assoc]
      exact List.Perm.append_right _ hp
  clear hx xl fl xl2 hys hm6 m6 xs
  rintro γ' μ' ⟨xs, m', o8, rfl, rfl, hm', hx, xl, hp⟩
  rw [List.take_append_drop] at hp
  -- the passes stand still
  refine Gh.many (xs := xs) (fun x => x.2.1) (fun x => sL x.2.2) hx.nd
    (fun x hx2 => by rw [updM_ne (hx.free x hx2).2]; exact (hx.free x hx2).1)
    (SubG.set (i := 7) rfl (SubD.lst (SubL.map (f := fun x : PX => D.lst [.str x.1, .adr x.2.1]) (g := fun x : PX => D.lst [.str x.1, .lst (sL x.2.2)]) fun x hx2 => SubD.lst (.cons .refl (.cons (SubD.here (List.mem_map.mpr ⟨x, hx2, rfl⟩)) .nil))))) SubMu.refl ?_
  let ps : List (Str × List Str) := xs.map fun x => (x.1, x.2.2)
  have eps : (xs.map fun x : PX => D.lst [.str x.1, .lst (sL x.2.2)]) = lstL ps := by unfold lstL; rw [List.map_map]; rfl
  rw [eps]
  have psl : ps.length ≤ 3 := by show (xs.map _).length ≤ 3; rw [List.length_map]; omega
  have ps1 : 1 ≤ ps.length := by show 1 ≤ (xs.map _).length; rw [List.length_map]; omega
  have hpp : (ps.flatMap (·.2)).Perm names := by
    have : ps.flatMap (·.2) = xs.flatMap (·.2.2) := by show (xs.map _).flatMap _ = _; rw [List.flatMap_map]
    rw [this]; exact hp
  have pdir : ∀ p ∈ ps, p.1 = "down" ∨ p.1 = "up" := fun p hp => by obtain ⟨x, hx2, rfl⟩ := List.mem_map.mp hp; exact hx.dir x hx2
  have pne : ∀ p ∈ ps, p.2 ≠ [] := fun p hp => by obtain ⟨x, hx2, rfl⟩ := List.mem_map.mp hp; exact hx.ne x hx2
  clear hx hp eps
  generalize ps = ps at *
  walk_at "d"
  intro so hso
  have sotp : so ≠ tp := fun e => by subst e; rw [updM_same] at hso; cases hso
  rw [updM_ne sotp] at hso
  walk_at "d"
  refine ⟨sz_of (by decide), ?_⟩
  walk_at "d"
  refine ⟨_, rfl, by show ([.inr "kinds", .inr "passes", .inr "sources", .inr "names"] : List Key).Nodup; decide +kernel, by simp, fun e he => ?_⟩
  have eso : e ≠ so := fun z => by subst z; rw [updM_same] at he; cases he
  rw [updM_ne eso] at he
  have etp : e ≠ tp := fun z => by subst z; rw [updM_same] at he; cases he
  rw [updM_ne etp] at he
  rw [updM_comm (Ne.symm eso)]
  walk_at "d"
  let EE : D → List Str → List (Key × D) := fun sd ns => [(.inr "kinds", .lst (sL kinds)), (.inr "passes", .lst (lstL ps)), (.inr "sources", sd), (.inr "names", .lst (sL ns))]
  refine for_pre (xs := ps) (fun p => D.lst [.str p.1, .lst (sL p.2)]) (fun qs γ' μ' => ∃ o10, γ' = [some (.adr tp), some (.int km), some (.int nm), some (.bl true), some (.lst (sL kinds)), some (.lst (sL nameMenu)), some (.lst (sL names)), some (.lst (lstL ps)), o8, some (.adr e), o10, none] ∧ μ' = updM (updM (updM μ tp m') e (.dK (EE (.adr so) (qs.flatMap (·.2))))) so (.dK [])) ⟨none, rfl, rfl⟩ (fun _ _ _ _ => trivial) ?_ ?_
  · rintro qs p zs eq γ' μ' ⟨o10, rfl, rfl⟩ U hU
    have l4 : (qs.flatMap (·.2)).length + p.2.length ≤ 4 := by
      have e1 := hpp.length_eq
      rw [eq, List.flatMap_append, List.flatMap_cons, List.length_append, List.length_append] at e1
      omega
    have he2 : ∀ T M, updM (updM (updM μ tp m') e T) so M e = some T := fun T M => by rw [updM_ne eso, updM_same]
    walk_at "d"
    refine ⟨_, dget_adr (he2 _ _) rfl, ?_⟩
    walk_at "d"
    refine oIx_items rfl rfl ?_
    refine oAdd_lst (by rw [List.length_map, List.length_map]; exact sz_of (by omega)) ?_
    walk_at "d"
    refine ⟨e, rfl, .inl ⟨_, _, he2 _ _, rfl, sz_lt (by simp [EE]), ?_⟩⟩
    rw [updM_upd2 eso]
    have ep : putKD (EE (.adr so) (qs.flatMap (·.2))) (.inr "names") (.lst (sL (qs.flatMap (·.2)) ++ sL p.2)) = EE (.adr so) ((qs ++ [p]).flatMap (·.2)) := by
      rw [List.flatMap_append, List.flatMap_singleton, ← sL_app']; rfl
    exact hU _ _ ⟨_, rfl, by rw [← ep]⟩
  rintro γ' μ' ⟨o10, rfl, rfl⟩
  generalize hat : ps.flatMap (·.2) = at_ at *
  have at4 : at_.length ≤ 4 := by have := hpp.length_eq; omega
  have atn : ∀ n ∈ at_, n ∈ nameMenu := fun n hn => nsb n (hpp.mem_iff.mp hn)
  have atd : at_.Nodup := hpp.nodup_iff.mpr nnd
  walk_at "d"
  have kl3 : kinds.length ≤ 3 := by omega
  let rw_ : (Str → List Str) → List Str → List (Key × D) := fun g ns => ns.map fun n => (.inr n, .lst (sL (g n)))
  let tb : (Str → Str → List Str) → List Str → List (Key × D) := fun src ks => ks.map fun k => (.inr k, .dK (rw_ (src k) at_))
  let ok : List Str → Prop := fun r => 1 ≤ r.length ∧ r.length ≤ 3 ∧ r.Nodup ∧ ∀ x ∈ r, IsSrc at_ x
  have no1 : ∀ (ks zs : List Str) (k : Str), (ks ++ k :: zs).Nodup → k ∉ ks := fun ks zs k nd hk => (List.nodup_append.mp nd).2.2 k hk k (by simp) rfl
  refine for_pre (xs := kinds) D.str (fun ks γ' μ' => ∃ o8 o11 m' src, γ' = [some (.adr tp), some (.int km), some (.int nm), some (.bl true), some (.lst (sL kinds)), some (.lst (sL nameMenu)), some (.lst (sL names)), some (.lst (lstL ps)), o8, some (.adr e), o10, o11] ∧ μ' = updM (updM (updM μ tp m') e (.dK (EE (.adr so) at_))) so (.dK (tb src ks)) ∧ IsTape m' ∧ ∀ k ∈ ks, ∀ n ∈ at_, ok (src k n)) ⟨o8, none, m', fun _ _ => [], rfl, rfl, hm', by simp⟩ (fun _ _ _ _ => trivial) ?_ ?_
  · clear hm' m' o8
    rintro ks k zs ek γ' μ' ⟨o8, o11, m', src, rfl, rfl, hm', hok⟩ U hU
    have knk : k ∉ ks := no1 ks zs k (ek ▸ knd)
    have kl1 : ks.length + 1 ≤ 3 := by have := congrArg List.length ek; rw [List.length_append, List.length_cons] at this; omega
    have he2 : ∀ T M, updM (updM (updM μ tp m') e T) so M e = some T := fun T M => by rw [updM_ne eso, updM_same]
    have hs2 : ∀ T M, updM (updM (updM μ tp m') e T) so M so = some M := fun T M => updM_same
    walk_at "d"
    intro d hd
    have dso : d ≠ so := fun z => by subst z; rw [updM_same] at hd; cases hd
    rw [updM_ne dso] at hd
    have de : d ≠ e := fun z => by subst z; rw [updM_same] at hd; cases hd
    rw [updM_ne de] at hd
    have dtp : d ≠ tp := fun z => by subst z; rw [updM_same] at hd; cases hd
    rw [updM_ne dtp] at hd
    walk_at "d"
    refine ⟨_, dget_adr (by rw [updM_ne (Ne.symm de)]; exact he2 _ _) rfl, ?_⟩
    walk_at "d"
    refine ⟨so, rfl, .inl ⟨_, .inr k, by rw [updM_ne (Ne.symm dso)]; exact hs2 _ _, rfl, sz_lt (by simp [tb]; omega), ?_⟩⟩
    rw [updM_upd2 (Ne.symm dso), putKD_new _ (valD_no fun x hx => ?_)]
    · have hvS : valD (tb src ks ++ [(Sum.inr k, D.adr d)]) (.inr k) = some (.adr d) := by
        rw [valD_app, valD_no (fun x hx => by
          obtain ⟨k', hk', rfl⟩ := List.mem_map.mp hx
          intro z
          cases z
          exact knk hk')]
        exact valD_pos (p := (Sum.inr k, D.adr d)) rfl
      generalize hS : tb src ks ++ [(Sum.inr k, D.adr d)] = S1 at hvS ⊢
      have he3 : ∀ m T M N, updM (updM (updM (updM μ tp m) e T) so M) d N e = some T := fun m T M N => by rw [updM_ne (Ne.symm de), updM_ne eso, updM_same]
      have hs3 : ∀ m T M N, updM (updM (updM (updM μ tp m) e T) so M) d N so = some M := fun m T M N => by rw [updM_ne (Ne.symm dso), updM_same]
      have ht3 : ∀ m T M N, updM (updM (updM (updM μ tp m) e T) so M) d N tp = some m := fun m T M N => by rw [updM_ne (Ne.symm dtp), updM_ne (Ne.symm sotp), updM_ne (Ne.symm etp), updM_same]
      walk_at "d"
      refine ⟨_, dget_adr (he3 _ _ _ _) rfl, ?_⟩
      refine ⟨_, rfl, ?_⟩
      refine for_pre (xs := at_) D.str (fun ns γ' μ' => ∃ o8 m' g, γ' = [some (.adr tp), some (.int km), some (.int nm), some (.bl true), some (.lst (sL kinds)), some (.lst (sL nameMenu)), some (.lst (sL names)), some (.lst (lstL ps)), o8, some (.adr e), o10, some (.str k)] ∧ μ' = updM (updM (updM (updM μ tp m') e (.dK (EE (.adr so) at_))) so (.dK S1)) d (.dK (rw_ g ns)) ∧ IsTape m' ∧ ∀ n ∈ ns, ok (g n)) ⟨o8, m', fun _ => [], rfl, rfl, hm', by simp⟩ (fun _ _ _ _ => trivial) ?_ ?_
      · clear he2 hs2 hm' m' o8
        rintro ns n ws en γ' μ' ⟨o8, m', g, rfl, rfl, hm', hg⟩ V hV
        have nnn : n ∉ ns := no1 ns ws n (en ▸ atd)
        have nl1 : ns.length + 1 ≤ 4 := by have := congrArg List.length en; rw [List.length_append, List.length_cons] at this; omega
        walk_at "d"
        refine ⟨tp, m', e, n, at_, rfl, ht3 _ _ _ _, hm', etp, ⟨_, by rw [he3]; rfl, rfl⟩, at4, fun n hn => menu_len n (atn n hn), fun r m2 h1 h3 hnd hsrc hm2 => ?_⟩
        rw [updM_comm dtp, updM_comm sotp, updM_comm etp, updM_updM]
        walk_at "d"
        refine ⟨_, dget_adr (he3 _ _ _ _) rfl, ?_⟩
        walk_at "d"
        refine ⟨_, dget_adr (hs3 _ _ _ _) hvS, ?_⟩
        walk_at "d"
        refine ⟨d, rfl, .inl ⟨_, .inr n, updM_same, rfl, sz_lt (by simp [rw_]; omega), ?_⟩⟩
        rw [updM_updM, putKD_new _ (valD_no fun x hx => ?_)]
        · let g2 : Str → List Str := fun n' => if n' = n then r else g n'
          have eg : rw_ g ns ++ [(Sum.inr n, D.lst (sL r))] = rw_ g2 (ns ++ [n]) := by
            show _ = List.map _ (ns ++ [n])
            rw [List.map_append]
            congr 1
            · refine List.map_congr_left fun n' hn' => ?_
              have : n' ≠ n := fun z => by subst z; exact nnn hn'
              simp [g2, this]
            · simp [g2]
          refine hV _ _ ⟨_, m2, g2, rfl, by rw [eg], hm2, fun n' hn' => ?_⟩
          rcases List.mem_append.mp hn' with hn2 | hn2
          · have : n' ≠ n := fun z => nnn (z ▸ hn2)
            simp only [g2, if_neg this]; exact hg n' hn2
          · rw [List.mem_singleton.mp hn2]; simp only [g2, if_true]; exact ⟨h1, h3, hnd, hsrc⟩
        · obtain ⟨n', hn', rfl⟩ := List.mem_map.mp hx
          intro z
          cases z
          exact nnn hn'
      · clear he2 hs2 hm' m' o8
        rintro γ' μ' ⟨o8, m', g, rfl, rfl, hm', hg⟩
        let src2 : Str → Str → List Str := fun k' => if k' = k then g else src k'
        have es : tb src ks ++ [(Sum.inr k, D.dK (rw_ g at_))] = tb src2 (ks ++ [k]) := by
          show _ = List.map _ (ks ++ [k])
          rw [List.map_append]
          congr 1
          · refine List.map_congr_left fun k' hk' => ?_
            have : k' ≠ k := fun z => by subst z; exact knk hk'
            simp [src2, this]
          · simp [src2]
        refine Gh.one (d := .dK (rw_ g at_)) (m' := .dK (tb src ks ++ [(Sum.inr k, D.dK (rw_ g at_))])) (by rw [updM_ne dso, updM_ne de, updM_ne dtp]; exact hd) rfl updM_same ?_ ?_
        · rw [← hS]
          refine SubM.dK (by rw [List.map_append, List.map_append]; rfl) ?_
          rw [List.map_append, List.map_append]
          exact SubL.snoc SubL.refl (SubD.here (by simp))
        · rw [updM_updM, es]
          refine hU _ _ ⟨_, _, m', src2, rfl, rfl, hm', fun k' hk' n hn => ?_⟩
          rcases List.mem_append.mp hk' with hk2 | hk2
          · have : k' ≠ k := fun z => knk (z ▸ hk2)
            simp only [src2, if_neg this]; exact hok k' hk2 n hn
          · rw [List.mem_singleton.mp hk2]; simp only [src2, if_true]; exact hg n hn
    · obtain ⟨k', hk', rfl⟩ := List.mem_map.mp hx
      intro z
      cases z
      exact knk hk'
  · clear hm' m' o8
    rintro γ' μ' ⟨o8, o11, m', src, rfl, rfl, hm', hok⟩
    let E : Eng := ⟨kinds, ps, src⟩
    have eat : E.attrs = at_ := hat
    have esrc : tb src kinds = E.srcIn := by unfold Eng.srcIn; rw [eat]
    refine Gh.one (d := .dK (tb src kinds)) (m' := .dK (EE (.dK (tb src kinds)) at_)) (by rw [updM_ne (Ne.symm eso), updM_ne sotp]; exact hso) rfl updM_same (SubM.dK rfl (.cons .refl (.cons .refl (.cons (SubD.here (by simp)) (.cons .refl .nil))))) ?_
    rw [updM_updM]
    walk_at "d"
    have ee : EE (.dK (tb src kinds)) at_ = engEs E := by unfold engEs; rw [← esrc, eat]
    rw [ee]
    have al := hpp.length_eq
    refine h e E m' ⟨?_, ps1, psl, pdir, pne, ?_, ?_, ?_⟩ ⟨ksb, by rw [eat]; exact atn⟩ (by show (kinds.length : Int) ≤ _; omega) (by rw [eat]; omega) he hm'
    · exact namesB_of (xs := kinds) (menu := kindMenu) (by decide +kernel) knd ksb (by omega) (by omega)
    · rw [eat]; exact namesB_of (menu := nameMenu) (by decide +kernel) atd atn (by rw [al]; omega) (by rw [al]; omega)
    · rw [eat]
      intro w hw z
      exact (by decide +kernel : ∀ w ∈ k_WORDS ++ [("fence" : Str)], w ∉ nameMenu) w hw (atn w z)
    · rw [eat]
      intro k hk n hn
      obtain ⟨h1, h3, hnd, hsrc⟩ := hok k hk n hn
      refine ⟨?_, fun x hx => srcLen atn (hsrc x hx)⟩
      unfold checkedB
      show ((decide (1 ≤ (src k n).length) && decide ((src k n).length ≤ 4)) && (decide (src k n).Nodup && (src k n).all (srcB at_))) = true
      rw [decide_eq_true h1, decide_eq_true (by omega), decide_eq_true hnd]
      simp only [Bool.true_and]
      exact List.all_eq_true.mpr fun x hx => srcB_of atn (hsrc x hx)
theorem ok_law_engine {P : Program} {w : World} {K : PySem.W.Frag} {mg : Str → Option Value} {base : Heap} {a : Adr} (T : Txt K mg a) (G_law_kind_names : FnD P w K mg base 3 a.f_law_kind_names (w_law_kind_names a)) (G_law_pick : FnD P w K mg base 1 a.f_law_pick (w_law_pick a)) (G_law_some : FnD P w K mg base 2 a.f_law_some (w_law_some a)) (G_law_one : FnD P w K mg base 2 a.f_law_one (w_law_one a)) (G_law_sources : FnD P w K mg base 3 a.f_law_sources (w_law_sources a)) : FnD P w K mg base 4 a.f_law_engine (w_law_engine a) := by
  obtain ⟨fd, F⟩ := T.F_law_engine.ex
  exact fn_D F (F.binds (ps := ["tape", "kind_most", "name_most", "late"]) fun _ _ _ _ _ _ us hl => match us, hl with | [_, _, _, _], _ => rfl) sc_law_engine (fun ds μ Ξ Φ h => len_law_engine h) fun cdv A outer s H E hr => ⟨B_law_engine a, D_law_engine T G_law_kind_names G_law_pick G_law_some G_law_one G_law_sources cdv A outer s H E hr, fun ds μ Ξ Φ h => read_law_engine ds μ Ξ Φ h⟩

/-- _law_any_reads -/
abbrev n_law_any_reads : List Str := ["tape", "book", "count", "marks", "many", "k", "mark", "lists", "key", "number", "names"]
theorem sc_law_any_reads : FnScope n_law_any_reads ["tape", "book"] (defScope s_law_any_reads) := ⟨rfl, rfl, rfl, by decide +kernel, rfl, by decide +kernel, by decide +kernel⟩
def B_law_any_reads (a : Adr) : TDS :=
  (dSeq (dAsg (dBi bLen (dCons (dOp oDGet (dVar 1) (dC (.str "passes"))) dNil)) (gNm 2)) (dSeq (dAsg (dCall (w_law_mark_names a) (dCons (dVar 0) (dCons (dOp oAdd (dC (.int 1)) (dCall (w_law_pick a) (dCons (dVar 0) (dCons (dC (.int 4)) dNil)))) dNil))) (gNm 3)) (dSeq (dAsg (dBi bLen (dCons (dVar 3) dNil)) (gNm 4)) (dSeq (dAsg dNewT (gDx (dVar 1) (dC (.str "rules")))) (dSeq (dAsg (dVar 3) (gDx (dVar 1) (dC (.str "marks")))) (dSeq (dAsg (dLcM (dRng1 (dCons (dVar 2) dNil)) (cNm 5) dYes (dLstM (dCons (dOp oIx (dVar 3) (dOp oMod (dBi bInt (dCons (dVar 5) dNil)) (dVar 4))) dNil)) [5]) (gDx (dVar 1) (dC (.str "enters")))) (dSeq (dAsg (dLcM (dRng1 (dCons (dVar 2) dNil)) (cNm 5) dYes (dLstM (dCons (dOp oIx (dVar 3) (dOp oMod (dBi bInt (dCons (dOp oSub (dOp oSub (dVar 4) (dC (.int 1))) (dVar 5)) dNil)) (dVar 4))) dNil)) [5]) (gDx (dVar 1) (dC (.str "through")))) (dSeq (dIf (dTest (dOp oGt (dCall (w_law_pick a) (dCons (dVar 0) (dCons (dC (.int 3)) dNil))) (dC (.int 0)))) (dFor (dRng1 (dCons (dVar 2) dNil)) (gNm 5) (dSeq (dAsg (dLcM (dIt (dVar 3)) (cNm 6) (dTest (dOp (oEq false) (dCall (w_law_pick a) (dCons (dVar 0) (dCons (dC (.int 2)) dNil))) (dC (.int 1)))) (dVar 6) [6]) (gIx (dOp oDGet (dVar 1) (dC (.str "enters"))) (dVar 5))) (dAsg (dLcM (dIt (dVar 3)) (cNm 6) (dTest (dOp (oEq false) (dCall (w_law_pick a) (dCons (dVar 0) (dCons (dC (.int 2)) dNil))) (dC (.int 1)))) (dVar 6) [6]) (gIx (dOp oDGet (dVar 1) (dC (.str "through"))) (dVar 5))))) dNext) (dGh (dFor (dIt (dVar 3)) (gNm 6) (dSeq (dAsg (dLc (dIt (dOp oAdd (dOp oDGet (dVar 1) (dC (.str "enters"))) (dOp oDGet (dVar 1) (dC (.str "through"))))) (cNm 10) (dTest (dOp (oIn false) (dVar 6) (dVar 10))) (dVar 10) [10]) (gNm 7)) (dSeq (dAsg (dOp oIx (dLst (dCons (dC (.str "enters")) (dCons (dC (.str "through")) dNil))) (dCall (w_law_pick a) (dCons (dVar 0) (dCons (dC (.int 2)) dNil)))) (gNm 8)) (dSeq (dAsg (dCall (w_law_pick a) (dCons (dVar 0) (dCons (dVar 2) dNil))) (gNm 9)) (dIf (dTest (dOp (oEq false) (dBi bLen (dCons (dVar 7) dNil)) (dC (.int 0)))) (dDrop (dBm isLis mAppend (dOp oIx (dOp oDGet (dVar 1) (dVar 8)) (dVar 9)) (dCons (dVar 6) dNil))) dNext))))))))))))))
theorem D_law_any_reads {P : Program} {w : World} {K : PySem.W.Frag} {mg : Str → Option Value} {base : Heap} {a : Adr} (T : Txt K mg a) (G_law_mark_names : FnD P w K mg base 3 a.f_law_mark_names (w_law_mark_names a)) (G_law_pick : FnD P w K mg base 1 a.f_law_pick (w_law_pick a)) (cdv : Value) (A : Around) (outer : List PySem.Env) (s : Shared) (H : Hp) (E : XK) (hr : Room 3 (A.deeper (PyProof.Rows.envOfC "_law_any_reads" (defScope s_law_any_reads) s.heap.objs.size a.f_law_any_reads cdv))) :
    PSs (cxOf (L2.CX P w) P w K mg base n_law_any_reads "_law_any_reads" (defScope s_law_any_reads) a.f_law_any_reads cdv A outer s H E) (defBody s_law_any_reads) (tDS K (fun cls d _ H => E cls d H) (B_law_any_reads a)) := by
  have tk : Takes (cxOf (L2.CX P w) P w K mg base n_law_any_reads "_law_any_reads" (defScope s_law_any_reads) a.f_law_any_reads cdv A outer s H E) (fun cls d _ H => E cls d H) := takes_of rfl rfl rfl rfl
  exact (ss_cons (s_set 2 sc_law_any_reads.nd (e_bi call_len bd_len T.z_len (a_cons (e_dget (huD hr) (e_var 1) e_str) a_nil))) (ss_cons (s_set 3 sc_law_any_reads.nd (e_call (cal_def G_law_mark_names (hr.mono (by decide)) tk) T.g_law_mark_names T.F_law_mark_names.kp (a_cons (e_var 0) (a_cons (e_bin op_addA od_add e_int (e_call (cal_def G_law_pick (hr.mono (by decide)) tk) T.g_law_pick T.F_law_pick.kp (a_cons (e_var 0) (a_cons e_int a_nil)))) a_nil)))) (ss_cons (s_set 4 sc_law_any_reads.nd (e_bi call_len bd_len T.z_len (a_cons (e_var 3) a_nil))) (ss_cons (s_asg e_newT (g_dx (huD hr) (e_var 1) e_str)) (ss_cons (s_asg (e_var 3) (g_dx (huD hr) (e_var 1) e_str)) (ss_cons (s_asg (e_lcM (own := [("k", 5)]) rfl sc_law_any_reads.nd (ct_name 5) (i_range1 T.z_range (a_cons (e_var 2) a_nil)) (blkOk_by (own := [("k", 5)]) (N := n_law_any_reads) (sc := defScope s_law_any_reads) (by decide +kernel)) (fun _ _ _ _ _ => (pg_name (i := 5) sc_law_any_reads.nd rfl (by first | exact .inl rfl | exact .inr rfl))) (fun _ _ _ _ _ => ts_nil) (fun _ _ _ _ _ => (e_lstM (a_cons (e_ix (e_var 3) (e_bin op_mod od_mod (e_bt call_int1 bd_int T.z_int (a_cons (e_var 5) a_nil)) (e_var 4))) a_nil)))) (g_dx (huD hr) (e_var 1) e_str)) (ss_cons (s_asg (e_lcM (own := [("k", 5)]) rfl sc_law_any_reads.nd (ct_name 5) (i_range1 T.z_range (a_cons (e_var 2) a_nil)) (blkOk_by (own := [("k", 5)]) (N := n_law_any_reads) (sc := defScope s_law_any_reads) (by decide +kernel)) (fun _ _ _ _ _ => (pg_name (i := 5) sc_law_any_reads.nd rfl (by first | exact .inl rfl | exact .inr rfl))) (fun _ _ _ _ _ => ts_nil) (fun _ _ _ _ _ => (e_lstM (a_cons (e_ix (e_var 3) (e_bin op_mod od_mod (e_bt call_int1 bd_int T.z_int (a_cons (e_bin op_sub od_sub (e_bin op_sub od_sub (e_var 4) e_int) (e_var 5)) a_nil)) (e_var 4))) a_nil)))) (g_dx (huD hr) (e_var 1) e_str)) (ss_cons (s_if (t_cmp op_gt od_gt (e_call (cal_def G_law_pick (hr.mono (by decide)) tk) T.g_law_pick T.F_law_pick.kp (a_cons (e_var 0) (a_cons e_int a_nil))) e_int) (ss_one (s_for (passes_of rfl) rfl (i_range1 T.z_range (a_cons (e_var 2) a_nil)) (g_name 5 sc_law_any_reads.nd) (ss_cons (s_asg (e_lcM (own := [("mark", 6)]) rfl sc_law_any_reads.nd (ct_name 6) (i_seq (e_var 3)) (blkOk_by (own := [("mark", 6)]) (N := n_law_any_reads) (sc := defScope s_law_any_reads) (by decide +kernel)) (fun _ _ _ _ _ => (pg_name (i := 6) sc_law_any_reads.nd rfl (by first | exact .inl rfl | exact .inr rfl))) (fun _ _ _ _ _ => (ts_one (t_cmp (op_eqA hr) od_eq (e_call (cal_def G_law_pick (hr.mono (by decide)) takes0) T.g_law_pick T.F_law_pick.kp (a_cons (e_var 0) (a_cons e_int a_nil))) e_int))) (fun _ _ _ _ _ => (e_var 6))) (g_ix (e_dget (huD hr) (e_var 1) e_str) (e_var 5))) (ss_one (s_asg (e_lcM (own := [("mark", 6)]) rfl sc_law_any_reads.nd (ct_name 6) (i_seq (e_var 3)) (blkOk_by (own := [("mark", 6)]) (N := n_law_any_reads) (sc := defScope s_law_any_reads) (by decide +kernel)) (fun _ _ _ _ _ => (pg_name (i := 6) sc_law_any_reads.nd rfl (by first | exact .inl rfl | exact .inr rfl))) (fun _ _ _ _ _ => (ts_one (t_cmp (op_eqA hr) od_eq (e_call (cal_def G_law_pick (hr.mono (by decide)) takes0) T.g_law_pick T.F_law_pick.kp (a_cons (e_var 0) (a_cons e_int a_nil))) e_int))) (fun _ _ _ _ _ => (e_var 6))) (g_ix (e_dget (huD hr) (e_var 1) e_str) (e_var 5))))))) ss_nil) (ss_one (s_gh (s_for (passes_of rfl) rfl (i_seq (e_var 3)) (g_name 6 sc_law_any_reads.nd) (ss_cons (s_setLc (own := [("names", 10)]) 7 rfl sc_law_any_reads.nd (ct_name 10) (i_seq (e_bin op_addA od_add (e_dget (huD hr) (e_var 1) e_str) (e_dget (huD hr) (e_var 1) e_str))) (blkOk_by (own := [("names", 10)]) (N := n_law_any_reads) (sc := defScope s_law_any_reads) (by decide +kernel)) (fun _ _ _ _ _ => (pg_name (i := 10) sc_law_any_reads.nd rfl (by first | exact .inl rfl | exact .inr rfl))) (fun _ _ _ _ _ => (ts_one (t_cmp op_in_seq od_in (e_var 6) (e_var 10)))) (fun _ _ _ _ _ => (e_var 10))) (ss_cons (s_set 8 sc_law_any_reads.nd (e_ix (e_lst (a_cons e_str (a_cons e_str a_nil))) (e_call (cal_def G_law_pick (hr.mono (by decide)) tk) T.g_law_pick T.F_law_pick.kp (a_cons (e_var 0) (a_cons e_int a_nil))))) (ss_cons (s_set 9 sc_law_any_reads.nd (e_call (cal_def G_law_pick (hr.mono (by decide)) tk) T.g_law_pick T.F_law_pick.kp (a_cons (e_var 0) (a_cons (e_var 2) a_nil)))) (ss_one (s_if (t_cmp (op_eqA hr) od_eq (e_bi call_len bd_len T.z_len (a_cons (e_var 7) a_nil)) e_int) (ss_one (s_expr (e_bm PySem.F.plainAttrs_list PySem.F.slot_list_append PySem.F.type_list_append mt_append md_append (e_ix (e_dget (huD hr) (e_var 1) (e_var 8)) (e_var 9)) (a_cons (e_var 6) a_nil)))) ss_nil))))))))))))))))
theorem len_law_any_reads {a : Adr} {ds μ Ξ Φ} (h : w_law_any_reads a ds μ Ξ Φ) : ds.length = 2 := by obtain ⟨_, _, _, _, rfl, _⟩ := h; rfl
abbrev RX := Addr × List Str
def adX (xs : List RX) : List D := xs.map fun x => .adr x.1
def beX (E : Eng) (marks : List Str) (rd ed td : D) : List (Key × D) := engEs E ++ [(.inr "rules", rd), (.inr "marks", .lst (sL marks)), (.inr "enters", ed), (.inr "through", td)]
def keyX (b : Bool) : Str := if b then "through" else "enters"
/-- the lists that are read, while they change: the two lists A, their rows X -/
structure RS (E : Eng) (marks : List Str) (μ0 μ : Mu) (tp e rb : Addr) (A : Bool → Addr) (X : Bool → List RX) (m : MO) : Prop where
  nd : (A true :: ((X true).map (·.1) ++ A false :: ((X false).map (·.1) ++ [rb, e, tp]))).Nodup
  free : ∀ b, μ0 (A b) = none ∧ ∀ x ∈ X b, μ0 x.1 = none
  rbf : μ0 rb = none
  hTp : μ tp = some m
  hE : μ e = some (.dK (beX E marks (.adr rb) (.adr (A false)) (.adr (A true))))
  hRb : μ rb = some (.dT [])
  lst : ∀ b, μ (A b) = some (.lst (adX (X b)))
  row : ∀ b, ∀ x ∈ X b, μ x.1 = some (.lst (sL x.2))
  frm : ∀ b m, μ0 b = some m → b ≠ tp → b ≠ e → μ b = some m
section
variable {E : Eng} {marks : List Str} {μ0 μ : Mu} {tp e rb : Addr} {A : Bool → Addr} {X : Bool → List RX} {m : MO}
theorem RS.nes (h : RS E marks μ0 μ tp e rb A X m) : (∀ b, A b ≠ tp ∧ A b ≠ e ∧ A b ≠ rb ∧ ∀ c, ∀ x ∈ X c, x.1 ≠ A b) ∧ A true ≠ A false ∧ (∀ b, ∀ x ∈ X b, x.1 ≠ tp ∧ x.1 ≠ e ∧ x.1 ≠ rb) ∧ (∀ b, ((X b).map (·.1)).Nodup) ∧ (∀ x ∈ X true, ∀ y ∈ X false, x.1 ≠ y.1) ∧ rb ≠ tp ∧ rb ≠ e ∧ e ≠ tp := by
  have nd := h.nd
  simp only [List.nodup_cons, List.nodup_append, List.mem_append, List.mem_cons, List.mem_map, not_or, not_exists, not_and, List.not_mem_nil, or_false, List.nodup_nil, and_true] at nd
  obtain ⟨⟨n1, n2, n3, n4, n5, n6⟩, n7, ⟨⟨n8, n9, n10, n11⟩, n12, ⟨⟨n13, n14⟩, n15, _⟩, n16⟩, n17⟩ := nd
  refine ⟨fun b => ?_, n2, fun b => ?_, fun b => ?_, fun x hx y hy => ?_, n14, n13, n15⟩
  · cases b with
    | true => exact ⟨n6, n5, n4, fun c x hx => by cases c with
        | true => exact n1 x hx
        | false => exact n3 x hx⟩
    | false => exact ⟨n11, n10, n9, fun c x hx => by cases c with
        | true => exact n17 _ ⟨x, hx, rfl⟩ _ (.inl rfl)
        | false => exact n8 x hx⟩
  · cases b with
    | true => exact fun x hx => ⟨n17 _ ⟨x, hx, rfl⟩ _ (by simp), n17 _ ⟨x, hx, rfl⟩ _ (by simp), n17 _ ⟨x, hx, rfl⟩ _ (by simp)⟩
    | false => exact fun x hx => ⟨n16 _ ⟨x, hx, rfl⟩ _ (by simp), n16 _ ⟨x, hx, rfl⟩ _ (by simp), n16 _ ⟨x, hx, rfl⟩ _ (by simp)⟩
  · cases b with
    | true => exact n7
    | false => exact n12
  · exact n17 _ ⟨x, hx, rfl⟩ _ (.inr (.inl ⟨y, hy, rfl⟩))
theorem RS.tape (h : RS E marks μ0 μ tp e rb A X m) (m2 : MO) : RS E marks μ0 (updM μ tp m2) tp e rb A X m2 := by
  obtain ⟨a1, a2, a3, a4, a5, a6, a7, a8⟩ := h.nes
  exact ⟨h.nd, h.free, h.rbf, updM_same, by rw [updM_ne a8]; exact h.hE, by rw [updM_ne a6]; exact h.hRb, fun b => by rw [updM_ne (a1 b).1]; exact h.lst b, fun b x hx => by rw [updM_ne (a3 b x hx).1]; exact h.row b x hx, fun b m hb n1 n2 => by rw [updM_ne n1]; exact h.frm b m hb n1 n2⟩
def setX (X : Bool → List RX) (b : Bool) (k : Nat) (y : RX) : Bool → List RX := fun c => if c = b then (X b).set k y else X c
theorem setX_mem {b : Bool} {k : Nat} {y : RX} {c : Bool} {x : RX} (h : x ∈ setX X b k y c) : x ∈ X c ∨ (x = y ∧ c = b) := by
  unfold setX at h
  by_cases e : c = b
  · subst e; rw [if_pos rfl] at h
    rcases List.mem_or_eq_of_mem_set h with h | h
    · exact .inl h
    · exact .inr ⟨h, rfl⟩
  · rw [if_neg e] at h; exact .inl h
theorem setX_len {b : Bool} {k : Nat} {y : RX} {c : Bool} : (setX X b k y c).length = (X c).length := by
  unfold setX
  by_cases e : c = b
  · subst e; rw [if_pos rfl, List.length_set]
  · rw [if_neg e]
/-- a row is another list -/
theorem RS.put (h : RS E marks μ0 μ tp e rb A X m) (b : Bool) {k : Nat} (hk : k < (X b).length) {p : Addr} (hp : μ p = none) (r : List Str) : RS E marks μ0 (updM (updM μ p (.lst (sL r))) (A b) (.lst ((adX (X b)).set k (.adr p)))) tp e rb A (setX X b k (p, r)) m := by
  obtain ⟨a1, a2, a3, a4, a5, a6, a7, a8⟩ := h.nes
  have ptp : p ≠ tp := mu_ne' h.hTp hp
  have pe : p ≠ e := mu_ne' h.hE hp
  have prb : p ≠ rb := mu_ne' h.hRb hp
  have pA : ∀ b, p ≠ A b := fun b => mu_ne' (h.lst b) hp
  have pX : ∀ b, ∀ x ∈ X b, p ≠ x.1 := fun b x hx => mu_ne' (h.row b x hx) hp
  have pf : μ0 p = none := by
    cases e : μ0 p with
    | none => rfl
    | some o => rw [h.frm p o e ptp pe] at hp; cases hp
  have nds : ∀ c, ((setX X b k (p, r) c).map (·.1)).Nodup := fun c => by
    unfold setX
    by_cases e : c = b
    · subst e
      rw [if_pos rfl, List.map_set]
      exact nodup_set (a4 c) fun z => by obtain ⟨x, hx, e⟩ := List.mem_map.mp z; exact pX c x hx e.symm
    · rw [if_neg e]; exact a4 c
  have mm : ∀ c x, x ∈ setX X b k (p, r) c → x ∈ X c ∨ x.1 = p := fun c x hx => (setX_mem hx).imp id fun ⟨e, _⟩ => by rw [e]
  refine ⟨?_, fun c => ⟨(h.free c).1, fun x hx => ?_⟩, h.rbf, ?_, ?_, ?_, fun c => ?_, fun c x hx => ?_, fun c m hc n1 n2 => ?_⟩
  · simp only [List.nodup_cons, List.nodup_append, List.mem_append, List.mem_cons, List.mem_map, not_or, not_exists, not_and, List.not_mem_nil, or_false, List.nodup_nil, and_true]
    have q1 : ∀ c d, ∀ x ∈ setX X b k (p, r) c, x.1 ≠ A d := fun c d x hx => by
      rcases mm c x hx with w | w
      · exact (a1 d).2.2.2 c x w
      · rw [w]; exact pA d
    have q2 : ∀ c, ∀ x ∈ setX X b k (p, r) c, x.1 ≠ rb ∧ x.1 ≠ e ∧ x.1 ≠ tp := fun c x hx => by
      rcases mm c x hx with w | w
      · exact ⟨(a3 c x w).2.2, (a3 c x w).2.1, (a3 c x w).1⟩
      · rw [w]; exact ⟨prb, pe, ptp⟩
    have q3 : ∀ x ∈ setX X b k (p, r) true, ∀ y ∈ setX X b k (p, r) false, x.1 ≠ y.1 := fun x hx y hy => by
      rcases setX_mem hx with w | ⟨w, e1⟩
      · rcases setX_mem hy with v | ⟨v, e2⟩
        · exact a5 x w y v
        · rw [v]; exact (pX true x w).symm
      · rcases setX_mem hy with v | ⟨v, e2⟩
        · rw [w]; exact pX false y v
        · rw [← e1] at e2; cases e2
    refine ⟨⟨fun x hx => q1 true true x hx, a2, fun x hx => q1 false true x hx, (a1 true).2.2.1, (a1 true).2.1, (a1 true).1⟩, nds true, ⟨⟨fun x hx => q1 false false x hx, (a1 false).2.2.1, (a1 false).2.1, (a1 false).1⟩, nds false, ⟨⟨a7, a6⟩, a8, by simp⟩, ?_⟩, ?_⟩
    · rintro _ ⟨x, hx, rfl⟩ y (rfl | rfl | rfl)
      · exact (q2 false x hx).1
      · exact (q2 false x hx).2.1
      · exact (q2 false x hx).2.2
    · rintro _ ⟨x, hx, rfl⟩ y (rfl | ⟨z, hz, rfl⟩ | rfl | rfl | rfl)
      · exact q1 true false x hx
      · exact q3 x hx z hz
      · exact (q2 true x hx).1
      · exact (q2 true x hx).2.1
      · exact (q2 true x hx).2.2
  · rcases mm c x hx with w | w
    · exact (h.free c).2 x w
    · rw [w]; exact pf
  · rw [updM_ne (a1 b).1.symm, updM_ne ptp.symm]; exact h.hTp
  · rw [updM_ne (a1 b).2.1.symm, updM_ne pe.symm]; exact h.hE
  · rw [updM_ne (a1 b).2.2.1.symm, updM_ne prb.symm]; exact h.hRb
  · by_cases e : c = b
    · subst e
      rw [updM_same]
      unfold setX adX
      rw [if_pos rfl, List.map_set]
    · have : A c ≠ A b := by cases c <;> cases b <;> first | exact absurd rfl e | exact a2 | exact a2.symm
      rw [updM_ne this, updM_ne (pA c).symm, h.lst c]
      unfold setX
      rw [if_neg e]
  · rcases setX_mem hx with w | ⟨w, e1⟩
    · rw [updM_ne ((a1 b).2.2.2 c x w), updM_ne (pX c x w).symm]; exact h.row c x w
    · rw [w, updM_ne (pA b), updM_same]
  · have : c ≠ A b := fun e => by rw [e, (h.free b).1] at hc; cases hc
    have : c ≠ p := fun e => by rw [e, pf] at hc; cases hc
    rw [updM_ne (by assumption), updM_ne (by assumption)]
    exact h.frm c m hc n1 n2
/-- a row grows -/
theorem RS.grow (h : RS E marks μ0 μ tp e rb A X m) (b : Bool) {k : Nat} {x : RX} (hk : (X b)[k]? = some x) (r : List Str) : RS E marks μ0 (updM μ x.1 (.lst (sL r))) tp e rb A (setX X b k (x.1, r)) m := by
  obtain ⟨a1, a2, a3, a4, a5, a6, a7, a8⟩ := h.nes
  have hx := List.mem_of_getElem? hk
  have em : ∀ c, (setX X b k (x.1, r) c).map (·.1) = (X c).map (·.1) := fun c => by
    unfold setX
    by_cases e : c = b
    · subst e
      rw [if_pos rfl, List.map_set]
      have : ((X c).map (·.1))[k]? = some x.1 := by rw [List.getElem?_map, hk]; rfl
      obtain ⟨hl, e⟩ := List.getElem?_eq_some_iff.mp this
      rw [← e]; exact List.set_getElem_self hl
    · rw [if_neg e]
  have ead : ∀ c, adX (setX X b k (x.1, r) c) = adX (X c) := fun c => by
    have : ∀ ys : List RX, adX ys = (ys.map (·.1)).map D.adr := fun ys => by unfold adX; rw [List.map_map]; rfl
    rw [this, this, em]
  refine ⟨by rw [em, em]; exact h.nd, fun c => ⟨(h.free c).1, fun y hy => ?_⟩, h.rbf, ?_, ?_, ?_, fun c => ?_, fun c y hy => ?_, fun c m hc n1 n2 => ?_⟩
  · rcases setX_mem hy with w | ⟨w, e1⟩
    · exact (h.free c).2 y w
    · rw [w]; exact (h.free b).2 x hx
  · rw [updM_ne (a3 b x hx).1.symm]; exact h.hTp
  · rw [updM_ne (a3 b x hx).2.1.symm]; exact h.hE
  · rw [updM_ne (a3 b x hx).2.2.symm]; exact h.hRb
  · rw [updM_ne ((a1 c).2.2.2 b x hx).symm, ead]; exact h.lst c
  · by_cases e1 : y.1 = x.1
    · rw [e1, updM_same]
      have : y.2 = r := by
        -- y stands at x's place
        by_cases e : c = b
        · subst e
          unfold setX at hy
          rw [if_pos rfl] at hy
          obtain ⟨j, hj⟩ := List.mem_iff_getElem?.mp hy
          rw [List.getElem?_set] at hj
          by_cases ej : k = j
          · rw [if_pos ej] at hj
            split at hj
            · cases hj; rfl
            · cases hj
          · rw [if_neg ej] at hj
            have g1 : ((X c).map (·.1))[j]? = some x.1 := by rw [List.getElem?_map, hj]; exact congrArg some e1
            have g2 : ((X c).map (·.1))[k]? = some x.1 := by rw [List.getElem?_map, hk]; rfl
            obtain ⟨l1, g1⟩ := List.getElem?_eq_some_iff.mp g1
            obtain ⟨l2, g2⟩ := List.getElem?_eq_some_iff.mp g2
            exact absurd (nd_inj' (a4 c) l2 l1 (g2.trans g1.symm)) ej
        · unfold setX at hy
          rw [if_neg e] at hy
          cases c <;> cases b <;> first | exact absurd rfl e | exact absurd e1 (a5 y hy x hx) | exact absurd e1.symm (a5 x hx y hy)
      rw [this]
    · rw [updM_ne e1]
      rcases setX_mem hy with w | ⟨w, _⟩
      · exact h.row c y w
      · exact absurd (by rw [w]) e1
  · have : c ≠ x.1 := fun e => by rw [e, (h.free b).2 x hx] at hc; cases hc
    rw [updM_ne this]
    exact h.frm c m hc n1 n2
end
def be1 (E : Eng) (rd : D) : List (Key × D) := engEs E ++ [(.inr "rules", rd)]
def be2 (E : Eng) (rd : D) (marks : List Str) : List (Key × D) := be1 E rd ++ [(.inr "marks", .lst (sL marks))]
def be3 (E : Eng) (rd : D) (marks : List Str) (ed : D) : List (Key × D) := be2 E rd marks ++ [(.inr "enters", ed)]
theorem put1 {E : Eng} {rd : D} : putKD (engEs E) (.inr "rules") rd = be1 E rd := putKD_new _ rfl
theorem put2 {E : Eng} {rd : D} {marks : List Str} : putKD (be1 E rd) (.inr "marks") (.lst (sL marks)) = be2 E rd marks := putKD_new _ rfl
theorem put3 {E : Eng} {rd : D} {marks : List Str} {ed : D} : putKD (be2 E rd marks) (.inr "enters") ed = be3 E rd marks ed := putKD_new _ rfl
theorem put4 {E : Eng} {rd : D} {marks : List Str} {ed td : D} : putKD (be3 E rd marks ed) (.inr "through") td = beX E marks rd ed td := (putKD_new _ rfl).trans (by unfold be3 be2 be1 beX; simp)
theorem ixN_nat {n i : Nat} (h : i < n) : ixN n (i : Int) = some i := by
  unfold ixN
  simp
  omega
theorem valX (E : Eng) (marks : List Str) (rd : D) (ed : Bool → D) (b : Bool) : valD (beX E marks rd (ed false) (ed true)) (.inr (keyX b)) = some (ed b) := by cases b <;> rfl
/-- rows of one mark each, as they are laid -/
def RowsJ (μ1 : Mu) (L : List Addr) (marks : List Str) (n : Nat) (acc : List D) (μ' : Mu) : Prop := ∃ xs : List RX, acc = adX xs ∧ xs.length = n ∧ (xs.map (·.1) ++ L).Nodup ∧
  (∀ x ∈ xs, μ1 x.1 = none ∧ μ' x.1 = some (.lst (sL x.2)) ∧ ∃ z ∈ marks, x.2 = [z]) ∧ ∀ b m, μ1 b = some m → μ' b = some m
theorem RowsJ.step {μ1 : Mu} {L : List Addr} {marks : List Str} {n : Nat} {acc : List D} {μ' : Mu} (h : RowsJ μ1 L marks n acc μ') (hL : ∀ a ∈ L, ∃ m, μ1 a = some m) {p : Addr} (hp : μ' p = none) {z : Str} (hz : z ∈ marks) :
    RowsJ μ1 L marks (n + 1) (acc ++ [.adr p]) (updM μ' p (.lst [.str z])) := by
  obtain ⟨xs, rfl, hl, nd, hx, ext⟩ := h
  have p1 : μ1 p = none := by
    cases e : μ1 p with
    | none => rfl
    | some m => rw [ext p m e] at hp; cases hp
  have px : p ∉ xs.map (·.1) := fun w => by
    obtain ⟨x, hm, rfl⟩ := List.mem_map.mp w
    rw [(hx x hm).2.1] at hp; cases hp
  have pL : p ∉ L := fun w => by obtain ⟨m, e⟩ := hL p w; rw [e] at p1; cases p1
  refine ⟨xs ++ [(p, [z])], by unfold adX; rw [List.map_append]; rfl, by rw [List.length_append, hl]; rfl, ?_, fun x hm => ?_, fun b m hb => ?_⟩
  · rw [List.map_append, List.append_assoc]
    have : (xs.map (·.1) ++ ([p] ++ L)).Perm (p :: (xs.map (·.1) ++ L)) := List.perm_middle
    exact this.nodup_iff.mpr (List.nodup_cons.mpr ⟨fun w => (List.mem_append.mp w).elim px pL, nd⟩)
  · rcases List.mem_append.mp hm with hm | hm
    · obtain ⟨h1, h2, h3⟩ := hx x hm
      exact ⟨h1, by rw [updM_ne (fun e => px (List.mem_map.mpr ⟨x, hm, e⟩))]; exact h2, h3⟩
    · rw [List.mem_singleton.mp hm]; exact ⟨p1, updM_same, z, hz, rfl⟩
  · have : b ≠ p := fun e => by rw [e, p1] at hb; cases hb
    rw [updM_ne this]; exact ext b m hb
structure RP (c : Nat) (marks : List Str) (X : Bool → List RX) : Prop where
  len : ∀ b, (X b).length = c
  row : ∀ b, ∀ x ∈ X b, x.2.Nodup ∧ ∀ z ∈ x.2, z ∈ marks
theorem RP.set {c : Nat} {marks : List Str} {X : Bool → List RX} (h : RP c marks X) (b : Bool) (k : Nat) (p : Addr) {r : List Str} (nd : r.Nodup) (sb : ∀ z ∈ r, z ∈ marks) : RP c marks (setX X b k (p, r)) :=
  ⟨fun d => by rw [setX_len]; exact h.len d, fun d x hx => by
    rcases setX_mem hx with w | ⟨w, _⟩
    · exact h.row d x w
    · rw [w]; exact ⟨nd, sb⟩⟩
theorem setX_grow {X : Bool → List RX} {b : Bool} {k : Nat} {x : RX} {r : List Str} (hk : (X b)[k]? = some x) (hr : ∀ w ∈ x.2, w ∈ r) {c : Bool} {y : RX} (hy : y ∈ X c) : ∃ u ∈ setX X b k (x.1, r) c, ∀ w ∈ y.2, w ∈ u.2 := by
  unfold setX
  by_cases e : c = b
  · subst e
    rw [if_pos rfl]
    obtain ⟨j, hj⟩ := List.mem_iff_getElem?.mp hy
    by_cases ej : k = j
    · subst ej
      rw [hk] at hj
      cases hj
      exact ⟨(x.1, r), List.mem_set (List.getElem?_eq_some_iff.mp hk).1 _, hr⟩
    · exact ⟨y, List.mem_iff_getElem?.mpr ⟨j, by rw [List.getElem?_set, if_neg ej]; exact hj⟩, fun _ h => h⟩
  · rw [if_neg e]; exact ⟨y, hy, fun _ h => h⟩
theorem setX_new {X : Bool → List RX} {b : Bool} {k : Nat} {x y : RX} (hk : (X b)[k]? = some x) : y ∈ setX X b k y b := by
  unfold setX
  rw [if_pos rfl]
  exact List.mem_set (List.getElem?_eq_some_iff.mp hk).1 _
theorem mark_names : markMenu.all nameB = true := by decide +kernel
theorem zip_l : ∀ {xs ys : List RX}, xs.length = ys.length → (List.zipWith (fun x y : RX => (x.2, y.2)) xs ys).map (·.1) = xs.map (·.2) ∧ (List.zipWith (fun x y : RX => (x.2, y.2)) xs ys).map (·.2) = ys.map (·.2)
  | [], [], _ => ⟨rfl, rfl⟩
  | x :: xs, y :: ys, h => by
    obtain ⟨h1, h2⟩ := zip_l (xs := xs) (ys := ys) (by simpa using h)
    exact ⟨by rw [List.zipWith_cons_cons, List.map_cons, h1, List.map_cons], by rw [List.zipWith_cons_cons, List.map_cons, h2, List.map_cons]⟩
  | [], _ :: _, h => by cases h
  | _ :: _, [], h => by cases h
theorem read_law_any_reads {a : Adr} : ∀ ds μ Ξ Φ, w_law_any_reads a ds μ Ξ Φ → B_law_any_reads a { nx := fun _ μ' => Φ .non μ', rt := Φ } (startG n_law_any_reads ds) μ (fun _ => Ξ) := by
  rintro ds μ Ξ Φ ⟨tp, m, e, E, rfl, ht, hm, etp, he, p1, p3, h⟩
  unfold B_law_any_reads
  walk_at "d"
  refine ⟨_, dget_adr he rfl, ?_⟩
  walk_at "d"
  have cl : (lstL E.passes).length = E.passes.length := by unfold lstL; rw [List.length_map]
  rw [cl]
  obtain ⟨c, hc⟩ : ∃ c, c = E.passes.length := ⟨_, rfl⟩
  rw [← hc] at p1 p3 ⊢
  refine ⟨tp, m, 4, rfl, ht, hm, by omega, by omega, fun r1 m1 r10 r11 hm1 => ?_⟩
  walk_at "d"
  refine ⟨tp, m1, 1 + r1, rfl, updM_same, hm1, by omega, by simp; omega, fun marks m2 ml mnd msb hm2 => ?_⟩
  rw [updM_updM]
  walk_at "d"
  rw [List.length_map]
  intro rb hrb
  have rbtp : rb ≠ tp := fun z => by subst z; rw [updM_same] at hrb; cases hrb
  rw [updM_ne rbtp] at hrb
  have rbe : rb ≠ e := mu_ne' he hrb
  walk_at "d"
  refine ⟨e, rfl, .inl ⟨_, .inr "rules", by rw [updM_ne rbe.symm, updM_ne etp]; exact he, rfl, sz_lt (by simp [engEs]), ?_⟩⟩
  rw [put1]
  walk_at "d"
  refine ⟨e, rfl, .inl ⟨_, .inr "marks", updM_same, rfl, sz_lt (by simp [engEs, be1]), ?_⟩⟩
  rw [put2, updM_updM]
  have f_tp : (updM (updM (updM μ tp m2) rb (.dT [])) e (.dK (be2 E (.adr rb) marks))) tp = some m2 := by rw [updM_ne etp.symm, updM_ne rbtp.symm, updM_same]
  have f_e : (updM (updM (updM μ tp m2) rb (.dT [])) e (.dK (be2 E (.adr rb) marks))) e = some (.dK (be2 E (.adr rb) marks)) := updM_same
  have f_rb : (updM (updM (updM μ tp m2) rb (.dT [])) e (.dK (be2 E (.adr rb) marks))) rb = some (.dT []) := by rw [updM_ne rbe, updM_same]
  have f_fr : ∀ b m, μ b = some m → b ≠ tp → b ≠ e → (updM (updM (updM μ tp m2) rb (.dT [])) e (.dK (be2 E (.adr rb) marks))) b = some m := fun b m hb n1 n2 => by
    have : b ≠ rb := fun z => by rw [z, hrb] at hb; cases hb
    rw [updM_ne n2, updM_ne this, updM_ne n1]; exact hb
  generalize updM (updM (updM μ tp m2) rb (.dT [])) e (.dK (be2 E (.adr rb) marks)) = μ1 at *
  walk_at "d"
  refine ⟨c, rfl, by omega, by omega, ?_⟩
  have at1 : ∀ (j : Int) (μ' : Mu) (Ψ : KD), (∀ z, z ∈ marks → Ψ (.str z) μ') → oIx (.lst (sL marks)) (.int (j % (marks.length : Int))) μ' Ψ := fun j μ' Ψ hΨ => by
    obtain ⟨z, hz, _, hi⟩ := atI_map (f := D.str) (xs := marks) (k := j % (marks.length : Int)) (Int.emod_nonneg _ (by omega)) (Int.emod_lt_of_pos _ (by omega))
    exact oIx_items rfl hi (hΨ z hz)
  have L1 : ∀ a ∈ [rb, e, tp], ∃ m, μ1 a = some m := fun a ha => by
    simp only [List.mem_cons, List.not_mem_nil, or_false] at ha
    rcases ha with rfl | rfl | rfl
    · exact ⟨_, f_rb⟩
    · exact ⟨_, f_e⟩
    · exact ⟨_, f_tp⟩
  refine lc_pre (xs := List.range (c : Int).toNat) (fun i : Nat => D.int (0 + i)) (fun ys acc μ' => ys.length ≤ 3 ∧ RowsJ μ1 [rb, e, tp] marks ys.length acc μ') ⟨by simp, [], rfl, rfl, by simp [rbe, rbtp, etp], by simp, fun _ _ h => h⟩ (fun _ _ _ _ => trivial) ?_ ?_
  · rintro ys k zs ek acc μ' ⟨_, hJ⟩ U hU _
    have yl : ys.length + 1 ≤ 3 := by have := congrArg List.length ek; rw [List.length_append, List.length_cons, List.length_range] at this; omega
    walk_at "d"
    refine at1 _ _ _ fun z hz => ?_
    walk_at "d"
    refine ⟨sz_of (by show 1 ≤ _; decide), fun p hp => ?_⟩
    refine hU _ _ (sz_lt (by obtain ⟨xs, rfl, hl, _⟩ := hJ; unfold adX; rw [List.length_map]; omega)) ⟨by simp; omega, ?_⟩
    rw [List.length_append]
    exact hJ.step L1 hp hz
  rintro acc μ2 ⟨_, xs0, rfl, xl0, nd0, hx0, ext0⟩
  rw [List.length_range] at xl0
  have xl0 : xs0.length = c := by omega
  walk_at "d"
  intro ea hea
  walk_at "d"
  have g_e : ∀ M, updM μ2 ea M e = some (.dK (be2 E (.adr rb) marks)) := fun M => by rw [updM_ne (mu_ne (ext0 _ _ f_e) hea)]; exact ext0 _ _ f_e
  refine ⟨e, rfl, .inl ⟨_, .inr "enters", g_e _, rfl, sz_lt (by simp [engEs, be1, be2]), ?_⟩⟩
  rw [put3]
  generalize hBE : be3 E (.adr rb) marks (.adr ea) = BE
  have ea_tp : ea ≠ tp := mu_ne' (ext0 _ _ f_tp) hea
  have ea_e : ea ≠ e := mu_ne' (ext0 _ _ f_e) hea
  have ea_rb : ea ≠ rb := mu_ne' (ext0 _ _ f_rb) hea
  have ea_x : ∀ x ∈ xs0, x.1 ≠ ea := fun x hx => mu_ne (hx0 x hx).2.1 hea
  have ea_1 : μ1 ea = none := by
    cases w : μ1 ea with
    | none => rfl
    | some m => rw [ext0 _ _ w] at hea; cases hea
  have x_e : ∀ x ∈ xs0, x.1 ≠ e := fun x hx => mu_ne' f_e (hx0 x hx).1
  have i_tp : updM (updM μ2 ea (.lst (adX xs0))) e (.dK BE) tp = some m2 := by rw [updM_ne etp.symm, updM_ne ea_tp.symm]; exact ext0 _ _ f_tp
  have i_e : updM (updM μ2 ea (.lst (adX xs0))) e (.dK BE) e = some (.dK BE) := updM_same
  have i_rb : updM (updM μ2 ea (.lst (adX xs0))) e (.dK BE) rb = some (.dT []) := by rw [updM_ne rbe, updM_ne ea_rb.symm]; exact ext0 _ _ f_rb
  have i_ea : updM (updM μ2 ea (.lst (adX xs0))) e (.dK BE) ea = some (.lst (adX xs0)) := by rw [updM_ne ea_e, updM_same]
  have i_x : ∀ x ∈ xs0, updM (updM μ2 ea (.lst (adX xs0))) e (.dK BE) x.1 = some (.lst (sL x.2)) := fun x hx => by rw [updM_ne (x_e x hx), updM_ne (ea_x x hx)]; exact (hx0 x hx).2.1
  have i_fr : ∀ b m, μ b = some m → b ≠ tp → b ≠ e → updM (updM μ2 ea (.lst (adX xs0))) e (.dK BE) b = some m := fun b m hb n1 n2 => by
    have w := f_fr b m hb n1 n2
    rw [updM_ne n2, updM_ne (fun z => by rw [z, ea_1] at w; cases w)]; exact ext0 _ _ w
  have free1 : ∀ b, μ1 b = none → b ≠ tp → b ≠ e → μ b = none := fun b hb n1 n2 => by
    cases w : μ b with
    | none => rfl
    | some m => rw [f_fr b m w n1 n2] at hb; cases hb
  have ea_0 : μ ea = none := free1 ea ea_1 ea_tp ea_e
  have x_0 : ∀ x ∈ xs0, μ x.1 = none ∧ ∃ z ∈ marks, x.2 = [z] := fun x hx => ⟨free1 _ (hx0 x hx).1 (mu_ne' f_tp (hx0 x hx).1) (x_e x hx), (hx0 x hx).2.2⟩
  have nd1 : (ea :: (xs0.map (·.1) ++ [rb, e, tp])).Nodup := List.nodup_cons.mpr ⟨fun w => by
    rcases List.mem_append.mp w with w | w
    · obtain ⟨x, hx, e1⟩ := List.mem_map.mp w; exact ea_x x hx e1
    · simp only [List.mem_cons, List.not_mem_nil, or_false] at w
      rcases w with w | w | w
      · exact ea_rb w
      · exact ea_e w
      · exact ea_tp w, nd0⟩
  clear hx0 ext0 g_e ea_1 L1 hea
  generalize updM (updM μ2 ea (.lst (adX xs0))) e (.dK BE) = μ3 at *
  clear f_tp f_e f_rb f_fr free1
  walk_at "d"
  refine ⟨c, rfl, by omega, by omega, ?_⟩
  have L2 : ∀ a ∈ ea :: (xs0.map (·.1) ++ [rb, e, tp]), ∃ m, μ3 a = some m := fun a ha => by
    simp only [List.mem_cons, List.mem_append, List.not_mem_nil, or_false, List.mem_map] at ha
    rcases ha with rfl | ⟨x, hx, rfl⟩ | rfl | rfl | rfl
    · exact ⟨_, i_ea⟩
    · exact ⟨_, i_x x hx⟩
    · exact ⟨_, i_rb⟩
    · exact ⟨_, i_e⟩
    · exact ⟨_, i_tp⟩
  refine lc_pre (xs := List.range (c : Int).toNat) (fun i : Nat => D.int (0 + i)) (fun ys acc μ' => ys.length ≤ 3 ∧ RowsJ μ3 (ea :: (xs0.map (·.1) ++ [rb, e, tp])) marks ys.length acc μ') ⟨by simp, [], rfl, rfl, nd1, by simp, fun _ _ h => h⟩ (fun _ _ _ _ => trivial) ?_ ?_
  · rintro ys k zs ek acc μ' ⟨_, hJ⟩ U hU _
    have yl : ys.length + 1 ≤ 3 := by have := congrArg List.length ek; rw [List.length_append, List.length_cons, List.length_range] at this; omega
    walk_at "d"
    refine at1 _ _ _ fun z hz => ?_
    walk_at "d"
    refine ⟨sz_of (by show 1 ≤ _; decide), fun p hp => ?_⟩
    refine hU _ _ (sz_lt (by obtain ⟨xs, rfl, hl, _⟩ := hJ; unfold adX; rw [List.length_map]; omega)) ⟨by simp; omega, ?_⟩
    rw [List.length_append]
    exact hJ.step L2 hp hz
  rintro acc μ4 ⟨_, xs1, rfl, xl1, nd2, hx1, ext1⟩
  rw [List.length_range] at xl1
  have xl1 : xs1.length = c := by omega
  walk_at "d"
  intro ta hta
  walk_at "d"
  have g_e : ∀ M, updM μ4 ta M e = some (.dK BE) := fun M => by rw [updM_ne (mu_ne (ext1 _ _ i_e) hta)]; exact ext1 _ _ i_e
  refine ⟨e, rfl, .inl ⟨_, .inr "through", g_e _, rfl, sz_lt (by rw [← hBE]; simp [engEs, be3, be2, be1]), ?_⟩⟩
  have hBE2 : putKD BE (.inr "through") (.adr ta) = beX E marks (.adr rb) (.adr ea) (.adr ta) := by
    rw [← hBE]; exact put4
  rw [hBE2]
  have ta_L : ta ∉ ea :: (xs0.map (·.1) ++ [rb, e, tp]) := fun w => by
    obtain ⟨m, w⟩ := L2 ta w
    rw [ext1 _ _ w] at hta; cases hta
  have ta_x : ∀ x ∈ xs1, x.1 ≠ ta := fun x hx => mu_ne (hx1 x hx).2.1 hta
  have ta_3 : μ3 ta = none := by
    cases w : μ3 ta with
    | none => rfl
    | some m => rw [ext1 _ _ w] at hta; cases hta
  have ta_e : ta ≠ e := fun w => ta_L (by simp [w])
  have ta_tp : ta ≠ tp := fun w => ta_L (by simp [w])
  have x1_e : ∀ x ∈ xs1, x.1 ≠ e := fun x hx => mu_ne' i_e (hx1 x hx).1
  have free3 : ∀ b, μ3 b = none → b ≠ tp → b ≠ e → μ b = none := fun b hb n1 n2 => by
    cases w : μ b with
    | none => rfl
    | some m => rw [i_fr b m w n1 n2] at hb; cases hb
  have rs : RS E marks μ (updM (updM μ4 ta (.lst (adX xs1))) e (.dK (beX E marks (.adr rb) (.adr ea) (.adr ta)))) tp e rb (fun b => if b then ta else ea) (fun b => if b then xs1 else xs0) m2 := by
    refine ⟨?_, fun b => ?_, hrb, ?_, updM_same, ?_, fun b => ?_, fun b x hx => ?_, fun b m hb n1 n2 => ?_⟩
    · refine List.nodup_cons.mpr ⟨fun w => ?_, nd2⟩
      rcases List.mem_append.mp w with w | w
      · obtain ⟨x, hx, e1⟩ := List.mem_map.mp w; exact ta_x x hx e1
      · exact ta_L w
    · cases b with
      | true => exact ⟨free3 ta ta_3 ta_tp ta_e, fun x hx => free3 _ (hx1 x hx).1 (mu_ne' i_tp (hx1 x hx).1) (x1_e x hx)⟩
      | false => exact ⟨ea_0, fun x hx => (x_0 x hx).1⟩
    · rw [updM_ne etp.symm, updM_ne ta_tp.symm]; exact ext1 _ _ i_tp
    · rw [updM_ne rbe, updM_ne (fun w => ta_L (by simp [← w]))]; exact ext1 _ _ i_rb
    · cases b with
      | true => show updM _ _ _ ta = _; rw [updM_ne ta_e, updM_same]; rfl
      | false => show updM _ _ _ ea = _; rw [updM_ne ea_e, updM_ne (fun w => ta_L (by simp [← w]))]; exact ext1 _ _ i_ea
    · cases b with
      | true => rw [updM_ne (x1_e x hx), updM_ne (ta_x x hx)]; exact (hx1 x hx).2.1
      | false =>
        have hx : x ∈ xs0 := hx
        rw [updM_ne (x_e x hx), updM_ne (fun w => ta_L (by rw [← w]; exact List.mem_cons_of_mem _ (List.mem_append_left _ (List.mem_map.mpr ⟨x, hx, rfl⟩))))]; exact ext1 _ _ (i_x x hx)
    · have w := i_fr b m hb n1 n2
      rw [updM_ne n2, updM_ne (fun z => by rw [z, ta_3] at w; cases w)]; exact ext1 _ _ w
  have rp : RP c marks (fun b => if b then xs1 else xs0) := ⟨fun b => by cases b <;> assumption, fun b x hx => by
    have : ∃ z ∈ marks, x.2 = [z] := by
      cases b with
      | true => exact (hx1 x hx).2.2
      | false => exact (x_0 x hx).2
    obtain ⟨z, hz, e1⟩ := this
    rw [e1]; exact ⟨by simp, by simpa using hz⟩⟩
  generalize updM (updM μ4 ta (.lst (adX xs1))) e (.dK (beX E marks (.adr rb) (.adr ea) (.adr ta))) = μ5 at rs ⊢
  generalize (fun b => if b = true then ta else ea : Bool → Addr) = A at rs
  generalize (fun b => if b = true then xs1 else xs0 : Bool → List RX) = X at rs rp
  clear hx1 ext1 g_e hta ta_L ta_x ta_3 ta_e ta_tp x1_e free3 L2 hBE2 hBE nd1 nd2 i_tp i_e i_rb i_ea i_x i_fr ea_tp ea_e ea_rb ea_x ea_0 x_0 x_e xl0 xl1 nd0 at1
  have m4 : marks.length ≤ 4 := by omega
  refine dSeq_to (fun γ' μ' => ∃ A X m' o5, γ' = [some (.adr tp), some (.adr e), some (.int c), some (.lst (sL marks)), some (.int marks.length), o5, none, none, none, none, none] ∧ RS E marks μ μ' tp e rb A X m' ∧ IsTape m' ∧ RP c marks X) ?_ fun U hU => ?_
  · clear rs rp A X hm2 m2 hm1
    rintro γ' μ' ⟨A, X, m', o5, rfl, rs, hm', rp⟩
    walk_at "d"
    refine for_pre (xs := marks) D.str (fun ms γ' μ' => ∃ A X m' o5 o6 o7 o8 o9, γ' = [some (.adr tp), some (.adr e), some (.int c), some (.lst (sL marks)), some (.int marks.length), o5, o6, o7, o8, o9, none] ∧ RS E marks μ μ' tp e rb A X m' ∧ IsTape m' ∧ RP c marks X ∧ ∀ z ∈ ms, ∃ b, ∃ x ∈ X b, z ∈ x.2) ⟨A, X, m', o5, none, none, none, none, rfl, rs, hm', rp, by simp⟩ (fun _ _ _ _ => trivial) ?_ ?_
    · clear rs hm' rp A X m' o5
      rintro ms z ws ez γ' μ' ⟨A, X, m', o5, o6, o7, o8, o9, rfl, rs, hm', rp, hms⟩ V hV
      have zin : z ∈ marks := by rw [ez]; simp
      walk_at "d"
      refine ⟨_, dget_adr rs.hE (valX E marks _ (fun b => .adr (A b)) false), ?_⟩
      walk_at "d"
      refine ⟨_, dget_adr rs.hE (valX E marks _ (fun b => .adr (A b)) true), ?_⟩
      have xl := rp.len
      have al : ∀ b, (adX (X b)).length = c := fun b => by unfold adX; rw [List.length_map]; exact xl b
      refine ⟨adX (X false), adX (X true), lis_adr (rs.lst false), lis_adr (rs.lst true), rfl, rfl, sz_of (by rw [al, al]; omega), ?_⟩
      walk_at "d"
      have ead : adX (X false) ++ adX (X true) = (X false ++ X true).map (fun x => D.adr x.1) := by unfold adX; rw [List.map_append]
      rw [ead]
      refine lc_filter (xs := X false ++ X true) (fun x : RX => D.adr x.1) (fun x : RX => D.adr x.1) (fun x => decide (z ∈ x.2)) (sz_of (by rw [List.length_append, xl, xl]; omega)) trivial (fun x hx W h => ?_) ?_
      · have hrow : μ' x.1 = some (.lst (sL x.2)) := (List.mem_append.mp hx).elim (rs.row false x) (rs.row true x)
        walk_at "d"
        refine oIn_strs (items_adr hrow) ?_
        walk_at "d"
        refine ite_d (fun q => ?_) fun q => ?_
        · walk_at "d"
          rw [if_pos (by simpa using q)] at h; exact h
        · rw [if_neg (by simpa using q)] at h; exact h
      · walk_at "d"
        refine ⟨sz_of (by decide), ?_⟩
        walk_at "d"
        refine ⟨tp, m', 2, rfl, rs.hTp, hm', by omega, by omega, fun r m3 r0 r1 hm3 => ?_⟩
        have rs := rs.tape m3
        generalize updM μ' tp m3 = μ6 at *
        have hb : ∃ b : Bool, atI ([.str "enters", .str "through"] : List D) r = some (.str (keyX b)) := by
          have : r = 0 ∨ r = 1 := by omega
          rcases this with rfl | rfl
          · exact ⟨false, rfl⟩
          · exact ⟨true, rfl⟩
        obtain ⟨b, hb⟩ := hb
        refine oIx_items rfl hb ?_
        walk_at "d"
        refine ⟨tp, m3, c, rfl, rs.hTp, hm3, by omega, by omega, fun n m4' n0 n1 hm4 => ?_⟩
        have rs := rs.tape m4'
        generalize updM μ6 tp m4' = μ7 at *
        walk_at "d"
        refine ite_d (fun q => ?_) fun q => ?_
        · walk_at "d"
          refine ⟨_, dget_adr rs.hE (valX E marks _ (fun b => .adr (A b)) b), ?_⟩
          walk_at "d"
          obtain ⟨x, hxm, hxi, hxa⟩ := atI_map (f := fun x : RX => D.adr x.1) (xs := X b) n0 (by rw [xl]; exact n1)
          refine oIx_items (xs := adX (X b)) (items_adr (rs.lst b)) hxa ?_
          have hrow := rs.row b x hxm
          refine ⟨isLis_adr hrow, ?_⟩
          walk_at "d"
          obtain ⟨xnd, xsb⟩ := rp.row b x hxm
          have x4 : x.2.length ≤ 4 := Nat.le_trans (nd_le2 xnd xsb) m4
          refine mAppend_i hrow (sz_lt (by rw [List.length_map]; omega)) ?_
          have zno : z ∉ x.2 := fun w => by
            have hf : ((X false ++ X true).filter fun x => decide (z ∈ x.2)).length = 0 := by rw [List.length_map] at q; omega
            have : x ∈ (X false ++ X true).filter fun x => decide (z ∈ x.2) := List.mem_filter.mpr ⟨by cases b <;> simp [hxm], by simpa using w⟩
            rw [List.length_eq_zero_iff.mp hf] at this
            cases this
          have rs := rs.grow b hxi (x.2 ++ [z])
          rw [sL_snoc] at rs
          refine hV _ _ ⟨A, _, m4', _, _, _, _, _, rfl, rs, hm4, rp.set b _ x.1 (List.nodup_append.mpr ⟨xnd, by simp, fun u hu v hv e => by simp at hv; subst hv; subst e; exact zno hu⟩) (fun u hu => ?_), fun u hu => ?_⟩
          · rcases List.mem_append.mp hu with hu | hu
            · exact xsb u hu
            · rw [List.mem_singleton.mp hu]; exact zin
          · rcases List.mem_append.mp hu with hu | hu
            · obtain ⟨d, y, hy, hw⟩ := hms u hu
              obtain ⟨v, hv, hv2⟩ := setX_grow hxi (r := x.2 ++ [z]) (fun w h => List.mem_append_left _ h) hy
              exact ⟨d, v, hv, hv2 u hw⟩
            · rw [List.mem_singleton.mp hu]; exact ⟨b, _, setX_new hxi, by simp⟩
        · refine hV _ _ ⟨A, X, m4', _, _, _, _, _, rfl, rs, hm4, rp, fun u hu => ?_⟩
          rcases List.mem_append.mp hu with hu | hu
          · exact hms u hu
          · rw [List.mem_singleton.mp hu]
            have hf : (X false ++ X true).filter (fun x => decide (z ∈ x.2)) ≠ [] := fun w => q (by rw [w]; rfl)
            obtain ⟨x, hx⟩ := List.exists_mem_of_ne_nil _ hf
            obtain ⟨hx1, hx2⟩ := List.mem_filter.mp hx
            rcases List.mem_append.mp hx1 with w | w
            · exact ⟨false, x, w, by simpa using hx2⟩
            · exact ⟨true, x, w, by simpa using hx2⟩
    · clear rs hm' rp A X m' o5
      rintro γ' μ' ⟨A, X, m', o5, o6, o7, o8, o9, rfl, rs, hm', rp, hall⟩
      obtain ⟨a1, a2, a3, a4, a5, a6, a7, a8⟩ := rs.nes
      have xl := rp.len
      -- the rows stand still
      refine Gh.frz ((X false ++ X true).map fun x => (x.1, D.lst (sL x.2))) _ (updM (updM (updM (updM (updM μ tp m') e (.dK (beX E marks (.adr rb) (.adr (A false)) (.adr (A true))))) rb (.dT [])) (A false) (.lst ((X false).map fun x => .lst (sL x.2)))) (A true) (.lst ((X true).map fun x => .lst (sL x.2)))) ?_ ?_ SubG.refl ?_ ?_
      · rw [List.map_map, List.map_append]
        refine List.nodup_append.mpr ⟨a4 false, a4 true, fun x hx y hy e1 => ?_⟩
        obtain ⟨x, hx2, rfl⟩ := List.mem_map.mp hx
        obtain ⟨y, hy2, rfl⟩ := List.mem_map.mp hy
        exact a5 y hy2 x hx2 e1.symm
      · intro p hp
        obtain ⟨x, hx, rfl⟩ := List.mem_map.mp hp
        have : μ' x.1 = some (.lst (sL x.2)) := (List.mem_append.mp hx).elim (rs.row false x) (rs.row true x)
        show frzM (μ' x.1) = _
        rw [this]; rfl
      · have hd : ∀ b, (∀ c, ∀ x ∈ X c, x.1 ≠ b) → delMs μ' ((X false ++ X true).map fun x => (x.1, D.lst (sL x.2))) b = μ' b := fun b hb => by
          unfold delMs
          rw [if_neg]
          intro w
          rw [List.map_map] at w
          obtain ⟨x, hx, e1⟩ := List.mem_map.mp w
          rcases List.mem_append.mp hx with hx | hx
          · exact hb false x hx e1
          · exact hb true x hx e1
        intro b m hb
        by_cases q1 : b = A true
        · subst q1
          rw [updM_same] at hb
          cases hb
          exact ⟨_, by rw [hd _ fun c x hx => (a1 true).2.2.2 c x hx]; exact rs.lst true, SubM.lst (SubL.map fun x hx => SubD.here (List.mem_map.mpr ⟨x, by simp [hx], rfl⟩))⟩
        rw [updM_ne q1] at hb
        by_cases q2 : b = A false
        · subst q2
          rw [updM_same] at hb
          cases hb
          exact ⟨_, by rw [hd _ fun c x hx => (a1 false).2.2.2 c x hx]; exact rs.lst false, SubM.lst (SubL.map fun x hx => SubD.here (List.mem_map.mpr ⟨x, by simp [hx], rfl⟩))⟩
        rw [updM_ne q2] at hb
        by_cases q3 : b = rb
        · subst q3
          rw [updM_same] at hb
          cases hb
          exact ⟨_, by rw [hd _ fun c x hx => (a3 c x hx).2.2]; exact rs.hRb, SubM.refl⟩
        rw [updM_ne q3] at hb
        by_cases q4 : b = e
        · subst q4
          rw [updM_same] at hb
          cases hb
          exact ⟨_, by rw [hd _ fun c x hx => (a3 c x hx).2.1]; exact rs.hE, SubM.refl⟩
        rw [updM_ne q4] at hb
        by_cases q5 : b = tp
        · subst q5
          rw [updM_same] at hb
          cases hb
          exact ⟨_, by rw [hd _ fun c x hx => (a3 c x hx).1]; exact rs.hTp, SubM.refl⟩
        rw [updM_ne q5] at hb
        exact ⟨m, by rw [hd _ fun c x hx e1 => by rw [← e1, (rs.free c).2 x hx] at hb; cases hb]; exact rs.frm b m hb q5 q4, SubM.refl⟩
      · have fT := (rs.free true).1
        have fF := (rs.free false).1
        refine Gh.one' (m := .dK (beX E marks (.adr rb) (.adr (A false)) (.adr (A true)))) (d := .lst ((X true).map fun x => .lst (sL x.2))) (m' := .dK (beX E marks (.adr rb) (.adr (A false)) (.lst ((X true).map fun x => .lst (sL x.2))))) (by rw [updM_ne a2, updM_ne (a1 true).2.2.1, updM_ne (a1 true).2.1, updM_ne (a1 true).1]; exact fT) rfl (by rw [updM_ne (a1 false).2.1.symm, updM_ne a7.symm, updM_same])
          (SubM.dK rfl (.cons .refl (.cons .refl (.cons .refl (.cons .refl (.cons .refl (.cons .refl (.cons .refl (.cons (SubD.here (by simp)) .nil))))))))) ?_
        rw [updM_comm (a := A false) (b := e) (a1 false).2.1, updM_upd2 a7.symm]
        refine Gh.one (m := .dK (beX E marks (.adr rb) (.adr (A false)) (.lst ((X true).map fun x => .lst (sL x.2))))) (d := .lst ((X false).map fun x => .lst (sL x.2))) (m' := .dK (beX E marks (.adr rb) (.lst ((X false).map fun x => .lst (sL x.2))) (.lst ((X true).map fun x => .lst (sL x.2))))) (by rw [updM_ne (a1 false).2.2.1, updM_ne (a1 false).2.1, updM_ne (a1 false).1]; exact fF) rfl (by rw [updM_ne a7.symm, updM_same])
          (SubM.dK rfl (.cons .refl (.cons .refl (.cons .refl (.cons .refl (.cons .refl (.cons .refl (.cons (SubD.here (by simp)) (.cons .refl .nil))))))))) ?_
        rw [updM_upd2 a7.symm]
        have lz : (X false).length = (X true).length := by rw [xl, xl]
        obtain ⟨z1, z2⟩ := zip_l lz
        let reads : List (List Str × List Str) := List.zipWith (fun x y : RX => (x.2, y.2)) (X false) (X true)
        have eb : beX E marks (.adr rb) (.lst ((X false).map fun x => .lst (sL x.2))) (.lst ((X true).map fun x => .lst (sL x.2))) = bookEs (Bk.mk E marks reads) (.adr rb) := by
          have e1 : (X false).map (fun x => D.lst (sL x.2)) = reads.map fun p => .lst (sL p.1) := by
            have : (X false).map (fun x => D.lst (sL x.2)) = ((X false).map (·.2)).map fun r => D.lst (sL r) := by rw [List.map_map]; rfl
            rw [this, ← z1, List.map_map]; rfl
          have e2 : (X true).map (fun x => D.lst (sL x.2)) = reads.map fun p => .lst (sL p.2) := by
            have : (X true).map (fun x => D.lst (sL x.2)) = ((X true).map (·.2)).map fun r => D.lst (sL r) := by rw [List.map_map]; rfl
            rw [this, ← z2, List.map_map]; rfl
          unfold beX bookEs
          rw [e1, e2]
        rw [eb]
        have mem1 : ∀ p ∈ reads, (∃ x ∈ X false, x.2 = p.1) ∧ ∃ x ∈ X true, x.2 = p.2 := fun p hp => by
          constructor
          · have : p.1 ∈ reads.map (·.1) := List.mem_map.mpr ⟨p, hp, rfl⟩
            rw [z1] at this
            exact List.mem_map.mp this
          · have : p.2 ∈ reads.map (·.2) := List.mem_map.mpr ⟨p, hp, rfl⟩
            rw [z2] at this
            exact List.mem_map.mp this
        have rl : reads.length = c := by show (List.zipWith _ _ _).length = c; rw [List.length_zipWith, xl, xl, Nat.min_self]
        refine (h marks reads rb m' ⟨namesB_of (xs := marks) mark_names mnd msb (by omega) (by omega), by show reads.length = E.passes.length; rw [rl, hc], by show reads.length ≤ 3; omega, fun p hp => ?_, fun p hp z hz => ?_, fun z hz => ?_⟩ msb hrb a6 a7 hm')
        · obtain ⟨⟨x, hx, e1⟩, y, hy, e2⟩ := mem1 p hp
          rw [← e1, ← e2]
          exact ⟨(rp.row _ x hx).1, (rp.row _ y hy).1⟩
        · obtain ⟨⟨x, hx, e1⟩, y, hy, e2⟩ := mem1 p hp
          rw [← e1, ← e2] at hz
          exact hz.elim ((rp.row _ x hx).2 z) ((rp.row _ y hy).2 z)
        · obtain ⟨b, x, hx, hzx⟩ := hall z hz
          cases b with
          | false =>
            have : x.2 ∈ reads.map (·.1) := by rw [z1]; exact List.mem_map.mpr ⟨x, hx, rfl⟩
            obtain ⟨p, hp, e1⟩ := List.mem_map.mp this
            exact ⟨p, hp, .inl (by rw [e1]; exact hzx)⟩
          | true =>
            have : x.2 ∈ reads.map (·.2) := by rw [z2]; exact List.mem_map.mpr ⟨x, hx, rfl⟩
            obtain ⟨p, hp, e1⟩ := List.mem_map.mp this
            exact ⟨p, hp, .inr (by rw [e1]; exact hzx)⟩
  · walk_at "d"
    refine ⟨tp, m2, 3, rfl, rs.hTp, hm2, by omega, by omega, fun r m3 r0 r1 hm3 => ?_⟩
    have rs := rs.tape m3
    generalize updM μ5 tp m3 = μ6 at *
    walk_at "d"
    refine ite_d (fun q => ?_) fun q => ?_
    · walk_at "d"
      refine ⟨c, rfl, by omega, by omega, ?_⟩
      refine for_pre (xs := List.range (c : Int).toNat) (fun i : Nat => D.int (0 + i)) (fun _ γ' μ' => ∃ A X m' o5, γ' = [some (.adr tp), some (.adr e), some (.int c), some (.lst (sL marks)), some (.int marks.length), o5, none, none, none, none, none] ∧ RS E marks μ μ' tp e rb A X m' ∧ IsTape m' ∧ RP c marks X) ⟨A, X, m3, none, rfl, rs, hm3, rp⟩ (fun _ _ _ _ => trivial) ?_ fun γ' μ' w => hU _ _ w
      rintro ys k zs ek γ' μ' ⟨A, X, m', o5, rfl, rs, hm', rp⟩ V hV
      have kc : k < c := by have : k ∈ List.range (c : Int).toNat := by rw [ek]; simp
                            have := List.mem_range.mp this; omega
      have al : ∀ X : Bool → List RX, RP c marks X → ∀ b, (adX (X b)).length = c := fun X rp b => by unfold adX; rw [List.length_map]; exact rp.len b
      walk_at "d"
      refine lc_pre (xs := marks) D.str (fun ys acc μ'' => ∃ r m'', acc = sL r ∧ r.Sublist ys ∧ μ'' = updM μ' tp m'' ∧ IsTape m'') ⟨[], m', rfl, List.Sublist.refl _, (updM_self rs.hTp).symm, hm'⟩ (fun _ _ _ _ => trivial) ?_ ?_
      · rintro ms z ws ez acc μ'' ⟨r, m'', rfl, hr, rfl, hm''⟩ W hW hW2
        have rl : r.length ≤ 4 := by have := hr.length_le; have := congrArg List.length ez; rw [List.length_append] at this; omega
        walk_at "d"
        refine ⟨tp, m'', 2, rfl, updM_same, hm'', by omega, by omega, fun d m4 d0 d1 hm4 => ?_⟩
        rw [updM_updM]
        walk_at "d"
        refine ite_d (fun q => ?_) fun q => ?_
        · walk_at "d"
          exact hW _ _ (sz_lt (by rw [List.length_map]; omega)) ⟨r ++ [z], m4, (sL_snoc r z).symm, hr.append (List.Sublist.refl _), rfl, hm4⟩
        · exact hW2 _ ⟨r, m4, rfl, hr.trans (List.sublist_append_left _ _), rfl, hm4⟩
      rintro acc μ'' ⟨r1', m4, rfl, hr1, rfl, hm4⟩
      have rs := rs.tape m4
      generalize updM μ' tp m4 = μ7 at *
      walk_at "d"
      intro p hp
      walk_at "d"
      refine ⟨_, dget_adr (by rw [updM_ne (mu_ne rs.hE hp)]; exact rs.hE) (valX E marks _ (fun b => .adr (A b)) false), ?_⟩
      walk_at "d"
      refine gIxE_i k (by rw [updM_ne (mu_ne (rs.lst false) hp)]; exact rs.lst false) (by rw [Int.zero_add]; exact ixN_nat (by rw [al X rp]; exact kc)) ?_
      have rs := rs.put false (k := k) (by rw [rp.len]; exact kc) hp r1'
      have rp := rp.set false k p (hr1.nodup mnd) (fun z hz => hr1.subset hz)
      generalize setX X false k (p, r1') = X2 at *
      generalize updM (updM μ7 p (.lst (sL r1'))) (A false) (.lst ((adX (X false)).set k (.adr p))) = μ8 at *
      walk_at "d"
      refine lc_pre (xs := marks) D.str (fun ys acc μ'' => ∃ r m'', acc = sL r ∧ r.Sublist ys ∧ μ'' = updM μ8 tp m'' ∧ IsTape m'') ⟨[], m4, rfl, List.Sublist.refl _, (updM_self rs.hTp).symm, hm4⟩ (fun _ _ _ _ => trivial) ?_ ?_
      · rintro ms z ws ez acc μ'' ⟨r, m'', rfl, hr, rfl, hm''⟩ W hW hW2
        have rl : r.length ≤ 4 := by have := hr.length_le; have := congrArg List.length ez; rw [List.length_append] at this; omega
        walk_at "d"
        refine ⟨tp, m'', 2, rfl, updM_same, hm'', by omega, by omega, fun d m4 d0 d1 hm4 => ?_⟩
        rw [updM_updM]
        walk_at "d"
        refine ite_d (fun q => ?_) fun q => ?_
        · walk_at "d"
          exact hW _ _ (sz_lt (by rw [List.length_map]; omega)) ⟨r ++ [z], m4, (sL_snoc r z).symm, hr.append (List.Sublist.refl _), rfl, hm4⟩
        · exact hW2 _ ⟨r, m4, rfl, hr.trans (List.sublist_append_left _ _), rfl, hm4⟩
      rintro acc μ'' ⟨r2', m5, rfl, hr2, rfl, hm5⟩
      have rs := rs.tape m5
      generalize updM μ8 tp m5 = μ9 at *
      walk_at "d"
      intro p2 hp2
      walk_at "d"
      refine ⟨_, dget_adr (by rw [updM_ne (mu_ne rs.hE hp2)]; exact rs.hE) (valX E marks _ (fun b => .adr (A b)) true), ?_⟩
      walk_at "d"
      refine gIxE_i k (by rw [updM_ne (mu_ne (rs.lst true) hp2)]; exact rs.lst true) (by rw [Int.zero_add]; exact ixN_nat (by rw [al X2 rp]; exact kc)) ?_
      have rs := rs.put true (k := k) (by rw [rp.len]; exact kc) hp2 r2'
      have rp := rp.set true k p2 (hr2.nodup mnd) (fun z hz => hr2.subset hz)
      exact hV _ _ ⟨A, _, m5, _, rfl, rs, hm5, rp⟩
    · exact hU _ _ ⟨A, X, m3, none, rfl, rs, hm3, rp⟩
theorem ok_law_any_reads {P : Program} {w : World} {K : PySem.W.Frag} {mg : Str → Option Value} {base : Heap} {a : Adr} (T : Txt K mg a) (G_law_mark_names : FnD P w K mg base 3 a.f_law_mark_names (w_law_mark_names a)) (G_law_pick : FnD P w K mg base 1 a.f_law_pick (w_law_pick a)) : FnD P w K mg base 4 a.f_law_any_reads (w_law_any_reads a) := by
  obtain ⟨fd, F⟩ := T.F_law_any_reads.ex
  exact fn_D F (F.binds (ps := ["tape", "book"]) fun _ _ _ _ _ _ us hl => match us, hl with | [_, _], _ => rfl) sc_law_any_reads (fun ds μ Ξ Φ h => len_law_any_reads h) fun cdv A outer s H E hr => ⟨B_law_any_reads a, D_law_any_reads T G_law_mark_names G_law_pick cdv A outer s H E hr, fun ds μ Ξ Φ h => read_law_any_reads ds μ Ξ Φ h⟩

/-- _law_places -/
abbrev n_law_places : List Str := ["event", "places"]
theorem sc_law_places : FnScope n_law_places ["event"] (defScope s_law_places) := ⟨rfl, rfl, rfl, by decide +kernel, rfl, by decide +kernel, by decide +kernel⟩
def B_law_places (a : Adr) : TDS :=
  (dSeq (dAsg (dDisp [((dC (.str "style")), (dLst (dCons (dC (.str "own")) (dCons (dC (.str "parent")) (dCons (dC (.str "next")) (dCons (dC (.str "up")) dNil)))))), ((dC (.str "remove")), (dLst (dCons (dC (.str "parent")) (dCons (dC (.str "next")) (dCons (dC (.str "up")) dNil)))))]) (gNm 1)) (dSeq (dAsg (dOp oDGet (dVar 1) (dC (.str "style"))) (gDx (dVar 1) (dC (.str "insert")))) (dSeq (dAsg (dOp oDGet (dVar 1) (dC (.str "style"))) (gDx (dVar 1) (dC (.str "move")))) (dRet (dFgt (dDGet2 (dVar 1) (dVar 0) (dLst (dCons (dC (.str "own")) (dCons (dC (.str "parent")) (dCons (dC (.str "next")) (dCons (dC (.str "children")) dNil)))))))))))
theorem D_law_places {P : Program} {w : World} {K : PySem.W.Frag} {mg : Str → Option Value} {base : Heap} {a : Adr} (T : Txt K mg a)  (cdv : Value) (A : Around) (outer : List PySem.Env) (s : Shared) (H : Hp) (E : XK) (hr : Room 0 (A.deeper (PyProof.Rows.envOfC "_law_places" (defScope s_law_places) s.heap.objs.size a.f_law_places cdv))) :
    PSs (cxOf (L2.CX P w) P w K mg base n_law_places "_law_places" (defScope s_law_places) a.f_law_places cdv A outer s H E) (defBody s_law_places) (tDS K (fun cls d _ H => E cls d H) (B_law_places a)) := by
  have tk : Takes (cxOf (L2.CX P w) P w K mg base n_law_places "_law_places" (defScope s_law_places) a.f_law_places cdv A outer s H E) (fun cls d _ H => E cls d H) := takes_of rfl rfl rfl rfl
  exact (ss_cons (s_set 1 sc_law_places.nd (e_disp (p_cons e_str (e_lst (a_cons e_str (a_cons e_str (a_cons e_str (a_cons e_str a_nil))))) (p_cons e_str (e_lst (a_cons e_str (a_cons e_str (a_cons e_str a_nil)))) p_nil)))) (ss_cons (s_asg (e_dget (huD hr) (e_var 1) e_str) (g_dx (huD hr) (e_var 1) e_str)) (ss_cons (s_asg (e_dget (huD hr) (e_var 1) e_str) (g_dx (huD hr) (e_var 1) e_str)) (ss_one (s_ret (e_fgt (e_dget2 (huD hr) (e_var 1) (e_var 0) (e_lst (a_cons e_str (a_cons e_str (a_cons e_str (a_cons e_str a_nil))))))))))))
/-- _law_any_atom -/
abbrev n_law_any_atom : List Str := ["tape", "book", "event", "place"]
theorem sc_law_any_atom : FnScope n_law_any_atom ["tape", "book"] (defScope s_law_any_atom) := ⟨rfl, rfl, rfl, by decide +kernel, rfl, by decide +kernel, by decide +kernel⟩
def B_law_any_atom (a : Adr) : TDS :=
  (dSeq (dAsg (dCall (w_law_one a) (dCons (dVar 0) (dCons (dOp oAdd (dLst (dCons (dC (.str "style")) (dCons (dC (.str "insert")) (dCons (dC (.str "remove")) (dCons (dC (.str "move")) dNil))))) (dOp oDGet (dVar 1) (dC (.str "names")))) dNil))) (gNm 2)) (dSeq (dAsg (dCall (w_law_one a) (dCons (dVar 0) (dCons (dCall (w_law_places a) (dCons (dVar 2) dNil)) dNil))) (gNm 3)) (dRet (dTup (dCons (dCall (w_law_one a) (dCons (dVar 0) (dCons (dOp oDGet (dVar 1) (dC (.str "kinds"))) dNil))) (dCons (dVar 2) (dCons (dVar 3) (dCons (dCall (w_law_one a) (dCons (dVar 0) (dCons (dOp oDGet (dVar 1) (dC (.str "marks"))) dNil))) dNil))))))))
theorem D_law_any_atom {P : Program} {w : World} {K : PySem.W.Frag} {mg : Str → Option Value} {base : Heap} {a : Adr} (T : Txt K mg a) (G_law_one : FnD P w K mg base 2 a.f_law_one (w_law_one a)) (G_law_places : FnD P w K mg base 1 a.f_law_places (w_law_places a)) (cdv : Value) (A : Around) (outer : List PySem.Env) (s : Shared) (H : Hp) (E : XK) (hr : Room 2 (A.deeper (PyProof.Rows.envOfC "_law_any_atom" (defScope s_law_any_atom) s.heap.objs.size a.f_law_any_atom cdv))) :
    PSs (cxOf (L2.CX P w) P w K mg base n_law_any_atom "_law_any_atom" (defScope s_law_any_atom) a.f_law_any_atom cdv A outer s H E) (defBody s_law_any_atom) (tDS K (fun cls d _ H => E cls d H) (B_law_any_atom a)) := by
  have tk : Takes (cxOf (L2.CX P w) P w K mg base n_law_any_atom "_law_any_atom" (defScope s_law_any_atom) a.f_law_any_atom cdv A outer s H E) (fun cls d _ H => E cls d H) := takes_of rfl rfl rfl rfl
  exact (ss_cons (s_set 2 sc_law_any_atom.nd (e_call (cal_def G_law_one (hr.mono (by decide)) tk) T.g_law_one T.F_law_one.kp (a_cons (e_var 0) (a_cons (e_bin op_addA od_add (e_lst (a_cons e_str (a_cons e_str (a_cons e_str (a_cons e_str a_nil))))) (e_dget (huD hr) (e_var 1) e_str)) a_nil)))) (ss_cons (s_set 3 sc_law_any_atom.nd (e_call (cal_def G_law_one (hr.mono (by decide)) tk) T.g_law_one T.F_law_one.kp (a_cons (e_var 0) (a_cons (e_call (cal_def G_law_places (hr.mono (by decide)) tk) T.g_law_places T.F_law_places.kp (a_cons (e_var 2) a_nil)) a_nil)))) (ss_one (s_ret (e_tup (a_cons (e_call (cal_def G_law_one (hr.mono (by decide)) tk) T.g_law_one T.F_law_one.kp (a_cons (e_var 0) (a_cons (e_dget (huD hr) (e_var 1) e_str) a_nil))) (a_cons (e_var 2) (a_cons (e_var 3) (a_cons (e_call (cal_def G_law_one (hr.mono (by decide)) tk) T.g_law_one T.F_law_one.kp (a_cons (e_var 0) (a_cons (e_dget (huD hr) (e_var 1) e_str) a_nil))) a_nil)))))))))
/-- _law_add -/
abbrev n_law_add : List Str := ["book", "kind", "event", "place", "marks", "old", "mark"]
theorem sc_law_add : FnScope n_law_add ["book", "kind", "event", "place", "marks"] (defScope s_law_add) := ⟨rfl, rfl, rfl, by decide +kernel, rfl, by decide +kernel, by decide +kernel⟩
def B_law_add (a : Adr) : TDS :=
  (dSeq (dAsg (dDGet2 (dOp oDGet (dVar 0) (dC (.str "rules"))) (dTup (dCons (dVar 1) (dCons (dVar 2) (dCons (dVar 3) dNil)))) (dLst dNil)) (gNm 5)) (dAsg (dOp oAdd (dVar 5) (dLc (dIt (dVar 4)) (cNm 6) (dTest (dOp (oIn true) (dVar 6) (dVar 5))) (dVar 6) [6])) (gDx (dOp oDGet (dVar 0) (dC (.str "rules"))) (dTup (dCons (dVar 1) (dCons (dVar 2) (dCons (dVar 3) dNil)))))))
theorem D_law_add {P : Program} {w : World} {K : PySem.W.Frag} {mg : Str → Option Value} {base : Heap} {a : Adr} (T : Txt K mg a)  (cdv : Value) (A : Around) (outer : List PySem.Env) (s : Shared) (H : Hp) (E : XK) (hr : Room 0 (A.deeper (PyProof.Rows.envOfC "_law_add" (defScope s_law_add) s.heap.objs.size a.f_law_add cdv))) :
    PSs (cxOf (L2.CX P w) P w K mg base n_law_add "_law_add" (defScope s_law_add) a.f_law_add cdv A outer s H E) (defBody s_law_add) (tDS K (fun cls d _ H => E cls d H) (B_law_add a)) := by
  have tk : Takes (cxOf (L2.CX P w) P w K mg base n_law_add "_law_add" (defScope s_law_add) a.f_law_add cdv A outer s H E) (fun cls d _ H => E cls d H) := takes_of rfl rfl rfl rfl
  exact (ss_cons (s_set 5 sc_law_add.nd (e_dget2 (huD hr) (e_dget (huD hr) (e_var 0) e_str) (e_tup (a_cons (e_var 1) (a_cons (e_var 2) (a_cons (e_var 3) a_nil)))) (e_lst a_nil))) (ss_one (s_asg (e_bin op_addA od_add (e_var 5) (e_lc (own := [("mark", 6)]) rfl sc_law_add.nd (ct_name 6) (i_seq (e_var 4)) (blkOk_by (own := [("mark", 6)]) (N := n_law_add) (sc := defScope s_law_add) (by decide +kernel)) (fun _ _ _ _ _ => (pg_name (i := 6) sc_law_add.nd rfl (by first | exact .inl rfl | exact .inr rfl))) (fun _ _ _ _ _ => (ts_one (t_cmp op_notIn_seq od_in (e_var 6) (e_var 5)))) (fun _ _ _ _ _ => (e_var 6)))) (g_dx (huD hr) (e_dget (huD hr) (e_var 0) e_str) (e_tup (a_cons (e_var 1) (a_cons (e_var 2) (a_cons (e_var 3) a_nil))))))))
/-- _law_more -/
abbrev n_law_more : List Str := ["tape", "book", "more", "k", "atom"]
theorem sc_law_more : FnScope n_law_more ["tape", "book", "more"] (defScope s_law_more) := ⟨rfl, rfl, rfl, by decide +kernel, rfl, by decide +kernel, by decide +kernel⟩
def B_law_more (a : Adr) : TDS :=
  (dFor (dRng1 (dCons (dVar 2) dNil)) (gNm 3) (dSeq (dAsg (dCall (w_law_any_atom a) (dCons (dVar 0) (dCons (dVar 1) dNil))) (gNm 4)) (dDrop (dCall (w_law_add a) (dCons (dVar 1) (dCons (dOp oIx (dVar 4) (dC (.int 0))) (dCons (dOp oIx (dVar 4) (dC (.int 1))) (dCons (dOp oIx (dVar 4) (dC (.int 2))) (dCons (dLst (dCons (dOp oIx (dVar 4) (dC (.int 3))) dNil)) dNil)))))))))
theorem D_law_more {P : Program} {w : World} {K : PySem.W.Frag} {mg : Str → Option Value} {base : Heap} {a : Adr} (T : Txt K mg a) (G_law_any_atom : FnD P w K mg base 3 a.f_law_any_atom (w_law_any_atom a)) (G_law_add : FnD P w K mg base 1 a.f_law_add (w_law_add a)) (cdv : Value) (A : Around) (outer : List PySem.Env) (s : Shared) (H : Hp) (E : XK) (hr : Room 3 (A.deeper (PyProof.Rows.envOfC "_law_more" (defScope s_law_more) s.heap.objs.size a.f_law_more cdv))) :
    PSs (cxOf (L2.CX P w) P w K mg base n_law_more "_law_more" (defScope s_law_more) a.f_law_more cdv A outer s H E) (defBody s_law_more) (tDS K (fun cls d _ H => E cls d H) (B_law_more a)) := by
  have tk : Takes (cxOf (L2.CX P w) P w K mg base n_law_more "_law_more" (defScope s_law_more) a.f_law_more cdv A outer s H E) (fun cls d _ H => E cls d H) := takes_of rfl rfl rfl rfl
  exact (ss_one (s_for (passes_of rfl) rfl (i_range1 T.z_range (a_cons (e_var 2) a_nil)) (g_name 3 sc_law_more.nd) (ss_cons (s_set 4 sc_law_more.nd (e_call (cal_def G_law_any_atom (hr.mono (by decide)) tk) T.g_law_any_atom T.F_law_any_atom.kp (a_cons (e_var 0) (a_cons (e_var 1) a_nil)))) (ss_one (s_expr (e_call (cal_def G_law_add (hr.mono (by decide)) tk) T.g_law_add T.F_law_add.kp (a_cons (e_var 1) (a_cons (e_ix (e_var 4) e_int) (a_cons (e_ix (e_var 4) e_int) (a_cons (e_ix (e_var 4) e_int) (a_cons (e_lst (a_cons (e_ix (e_var 4) e_int) a_nil)) a_nil)))))))))))
/-- _law_ways -/
abbrev n_law_ways : List Str := ["book", "mark", "one"]
theorem sc_law_ways : FnScope n_law_ways ["book"] (defScope s_law_ways) := ⟨rfl, rfl, rfl, by decide +kernel, rfl, by decide +kernel, by decide +kernel⟩
def B_law_ways (a : Adr) : TDS :=
  (dRet (dLc (dIt (dOp oDGet (dVar 0) (dC (.str "marks")))) (cNm 1) (dTest (dOp oGt (dBi bLen (dCons (dLc (dIt (dOp oDGet (dVar 0) (dC (.str "through")))) (cNm 2) (dTest (dOp (oIn false) (dVar 1) (dVar 2))) (dVar 2) [2]) dNil)) (dC (.int 0)))) (dVar 1) [1]))
theorem D_law_ways {P : Program} {w : World} {K : PySem.W.Frag} {mg : Str → Option Value} {base : Heap} {a : Adr} (T : Txt K mg a)  (cdv : Value) (A : Around) (outer : List PySem.Env) (s : Shared) (H : Hp) (E : XK) (hr : Room 0 (A.deeper (PyProof.Rows.envOfC "_law_ways" (defScope s_law_ways) s.heap.objs.size a.f_law_ways cdv))) :
    PSs (cxOf (L2.CX P w) P w K mg base n_law_ways "_law_ways" (defScope s_law_ways) a.f_law_ways cdv A outer s H E) (defBody s_law_ways) (tDS K (fun cls d _ H => E cls d H) (B_law_ways a)) := by
  have tk : Takes (cxOf (L2.CX P w) P w K mg base n_law_ways "_law_ways" (defScope s_law_ways) a.f_law_ways cdv A outer s H E) (fun cls d _ H => E cls d H) := takes_of rfl rfl rfl rfl
  exact (ss_one (s_ret (e_lc (own := [("mark", 1)]) rfl sc_law_ways.nd (ct_name 1) (i_seq (e_dget (huD hr) (e_var 0) e_str)) (blkOk_by (own := [("mark", 1)]) (N := n_law_ways) (sc := defScope s_law_ways) (by decide +kernel)) (fun _ _ _ _ _ => (pg_name (i := 1) sc_law_ways.nd rfl (by first | exact .inl rfl | exact .inr rfl))) (fun _ _ _ _ _ => (ts_one (t_cmp op_gt od_gt (e_bi call_len bd_len T.z_len (a_cons (e_lc (own := [("one", 2)]) rfl sc_law_ways.nd (ct_name 2) (i_seq (e_dget (huD hr) (e_var 0) e_str)) (blkOk_by (own := [("one", 2)]) (N := n_law_ways) (sc := _) (by kernel_rfl)) (fun _ _ _ _ _ => (pg_name (i := 2) sc_law_ways.nd rfl (by first | exact .inl rfl | exact .inr rfl))) (fun _ _ _ _ _ => (ts_one (t_cmp op_in_seq od_in (e_var 1) (e_var 2)))) (fun _ _ _ _ _ => (e_var 2))) a_nil)) e_int))) (fun _ _ _ _ _ => (e_var 1)))))
/-- _law_fence -/
abbrev n_law_fence : List Str := ["tape", "book", "ways", "marks", "mark"]
theorem sc_law_fence : FnScope n_law_fence ["tape", "book"] (defScope s_law_fence) := ⟨rfl, rfl, rfl, by decide +kernel, rfl, by decide +kernel, by decide +kernel⟩
def B_law_fence (a : Adr) : TDS :=
  (dSeq (dAsg (dCall (w_law_ways a) (dCons (dVar 1) dNil)) (gNm 2)) (dSeq (dAsg (dLc (dIt (dOp oDGet (dVar 1) (dC (.str "marks")))) (cNm 4) (dTest (dOp (oIn true) (dVar 4) (dVar 2))) (dVar 4) [4]) (gNm 3)) (dIf (dAnd (dTest (dOp oGt (dBi bLen (dCons (dVar 3) dNil)) (dC (.int 0)))) (dTest (dOp (oEq false) (dCall (w_law_pick a) (dCons (dVar 0) (dCons (dC (.int 3)) dNil))) (dC (.int 1))))) (dDrop (dCall (w_law_add a) (dCons (dVar 1) (dCons (dCall (w_law_one a) (dCons (dVar 0) (dCons (dOp oDGet (dVar 1) (dC (.str "kinds"))) dNil))) (dCons (dC (.str "fence")) (dCons (dC (.str "up")) (dCons (dLst (dCons (dCall (w_law_one a) (dCons (dVar 0) (dCons (dVar 3) dNil))) dNil)) dNil))))))) dNext)))
theorem D_law_fence {P : Program} {w : World} {K : PySem.W.Frag} {mg : Str → Option Value} {base : Heap} {a : Adr} (T : Txt K mg a) (G_law_ways : FnD P w K mg base 1 a.f_law_ways (w_law_ways a)) (G_law_pick : FnD P w K mg base 1 a.f_law_pick (w_law_pick a)) (G_law_add : FnD P w K mg base 1 a.f_law_add (w_law_add a)) (G_law_one : FnD P w K mg base 2 a.f_law_one (w_law_one a)) (cdv : Value) (A : Around) (outer : List PySem.Env) (s : Shared) (H : Hp) (E : XK) (hr : Room 2 (A.deeper (PyProof.Rows.envOfC "_law_fence" (defScope s_law_fence) s.heap.objs.size a.f_law_fence cdv))) :
    PSs (cxOf (L2.CX P w) P w K mg base n_law_fence "_law_fence" (defScope s_law_fence) a.f_law_fence cdv A outer s H E) (defBody s_law_fence) (tDS K (fun cls d _ H => E cls d H) (B_law_fence a)) := by
  have tk : Takes (cxOf (L2.CX P w) P w K mg base n_law_fence "_law_fence" (defScope s_law_fence) a.f_law_fence cdv A outer s H E) (fun cls d _ H => E cls d H) := takes_of rfl rfl rfl rfl
  exact (ss_cons (s_set 2 sc_law_fence.nd (e_call (cal_def G_law_ways (hr.mono (by decide)) tk) T.g_law_ways T.F_law_ways.kp (a_cons (e_var 1) a_nil))) (ss_cons (s_setLc (own := [("mark", 4)]) 3 rfl sc_law_fence.nd (ct_name 4) (i_seq (e_dget (huD hr) (e_var 1) e_str)) (blkOk_by (own := [("mark", 4)]) (N := n_law_fence) (sc := defScope s_law_fence) (by decide +kernel)) (fun _ _ _ _ _ => (pg_name (i := 4) sc_law_fence.nd rfl (by first | exact .inl rfl | exact .inr rfl))) (fun _ _ _ _ _ => (ts_one (t_cmp op_notIn_seq od_in (e_var 4) (e_var 2)))) (fun _ _ _ _ _ => (e_var 4))) (ss_one (s_if (PW.pt (w_and (t_cmp op_gt od_gt (e_bi call_len bd_len T.z_len (a_cons (e_var 3) a_nil)) e_int) (w_and1 (t_cmp (op_eqA hr) od_eq (e_call (cal_def G_law_pick (hr.mono (by decide)) tk) T.g_law_pick T.F_law_pick.kp (a_cons (e_var 0) (a_cons e_int a_nil))) e_int)))) (ss_one (s_expr (e_call (cal_def G_law_add (hr.mono (by decide)) tk) T.g_law_add T.F_law_add.kp (a_cons (e_var 1) (a_cons (e_call (cal_def G_law_one (hr.mono (by decide)) tk) T.g_law_one T.F_law_one.kp (a_cons (e_var 0) (a_cons (e_dget (huD hr) (e_var 1) e_str) a_nil))) (a_cons e_str (a_cons e_str (a_cons (e_lst (a_cons (e_call (cal_def G_law_one (hr.mono (by decide)) tk) T.g_law_one T.F_law_one.kp (a_cons (e_var 0) (a_cons (e_var 3) a_nil))) a_nil)) a_nil)))))))) ss_nil))))
theorem len_law_places {a : Adr} {ds μ Ξ Φ} (h : w_law_places a ds μ Ξ Φ) : ds.length = 1 := by obtain ⟨_, rfl, _⟩ := h; rfl
theorem read_law_places {a : Adr} : ∀ ds μ Ξ Φ, w_law_places a ds μ Ξ Φ → B_law_places a { nx := fun _ μ' => Φ .non μ', rt := Φ } (startG n_law_places ds) μ (fun _ => Ξ) := by
  rintro ds μ Ξ Φ ⟨e, rfl, h⟩
  unfold B_law_places
  walk_at "d"
  refine ⟨sz_of (by decide), ?_⟩
  walk_at "d"
  refine ⟨sz_of (by decide), ?_⟩
  walk_at "d"
  refine ⟨_, rfl, by show ([.inr "style", .inr "remove"] : List Key).Nodup; decide +kernel, by simp, fun p hp => ?_⟩
  let S4 : D := .lst (sL ["own", "parent", "next", "up"])
  walk_at "d"
  refine ⟨S4, dget_adr updM_same rfl, ?_⟩
  walk_at "d"
  refine ⟨p, rfl, .inl ⟨_, .inr "insert", updM_same, rfl, sz_lt (by simp), ?_⟩⟩
  rw [updM_updM, putKD_new _ rfl]
  walk_at "d"
  refine ⟨S4, dget_adr updM_same rfl, ?_⟩
  walk_at "d"
  refine ⟨p, rfl, .inl ⟨_, .inr "move", updM_same, rfl, sz_lt (by simp), ?_⟩⟩
  rw [updM_updM, putKD_new _ rfl]
  walk_at "d"
  refine ⟨.inl ⟨_, by show dKM _ = _; rw [updM_same]; rfl⟩, ?_⟩
  walk_at "d"
  refine ⟨sz_of (by decide), ?_⟩
  refine ⟨_, by show (dKM _).map _ = _; rw [updM_same]; rfl, ?_⟩
  have hv : ∀ T : List (Key × D), T = [(.inr "style", S4), (.inr "remove", .lst (sL ["parent", "next", "up"])), (.inr "insert", S4), (.inr "move", S4)] → (valD T (.inr e)).getD (.lst (sL ["own", "parent", "next", "children"])) = .lst (sL (lplaces e)) := by
    rintro T rfl
    unfold lplaces
    by_cases q1 : e = "style"
    · subst q1; rfl
    rw [valD_neg (p := ((Sum.inr "style", S4) : Key × D)) (fun z => q1 (by injection z with z; exact z.symm))]
    by_cases q2 : e = "remove"
    · subst q2; rfl
    rw [valD_neg (p := ((Sum.inr "remove", D.lst (sL ["parent", "next", "up"])) : Key × D)) (fun z => q2 (by injection z with z; exact z.symm))]
    by_cases q3 : e = "insert"
    · subst q3; rfl
    rw [valD_neg (p := ((Sum.inr "insert", S4) : Key × D)) (fun z => q3 (by injection z with z; exact z.symm))]
    by_cases q4 : e = "move"
    · subst q4; rfl
    rw [valD_neg (p := ((Sum.inr "move", S4) : Key × D)) (fun z => q4 (by injection z with z; exact z.symm)), if_neg (by simp [q1, q3, q4]), if_neg q2]
    rfl
  have hv2 := hv _ rfl
  refine ⟨μ, fun b m hb => ?_, ?_⟩
  · have : b ≠ p := fun z => by rw [z, hp] at hb; cases hb
    rw [updM_ne this]; exact hb
  · have w : ∀ d, d = .lst (sL (lplaces e)) → Φ d μ := fun d e => e ▸ h
    exact w _ hv2
theorem ok_law_places {P : Program} {w : World} {K : PySem.W.Frag} {mg : Str → Option Value} {base : Heap} {a : Adr} (T : Txt K mg a)  : FnD P w K mg base 1 a.f_law_places (w_law_places a) := by
  obtain ⟨fd, F⟩ := T.F_law_places.ex
  exact fn_D F (F.binds (ps := ["event"]) fun _ _ _ _ _ _ us hl => match us, hl with | [_], _ => rfl) sc_law_places (fun ds μ Ξ Φ h => len_law_places h) fun cdv A outer s H E hr => ⟨B_law_places a, D_law_places T  cdv A outer s H E hr, fun ds μ Ξ Φ h => read_law_places ds μ Ξ Φ h⟩
theorem len_law_any_atom {a : Adr} {ds μ Ξ Φ} (h : w_law_any_atom a ds μ Ξ Φ) : ds.length = 2 := by obtain ⟨_, _, _, _, _, rfl, _⟩ := h; rfl
theorem lplaces_len (e : Str) : 0 < (lplaces e).length ∧ (lplaces e).length ≤ 4 := by
  unfold lplaces
  split
  · simp
  · split <;> simp
theorem one_str {a : Adr} {tp : Addr} {m : MO} {xs : List Str} {μ : Mu} {Ξ : XF} {Φ : KD} (ht : μ tp = some m) (hm : IsTape m) (h0 : 0 < xs.length) (hz : xs.length < 1000000) (h : ∀ z m', z ∈ xs → IsTape m' → Φ (.str z) (updM μ tp m')) :
    w_law_one a [.adr tp, .lst (sL xs)] μ Ξ Φ := ⟨tp, m, _, sL xs, rfl, ht, hm, rfl, fun _ _ => rfl, by rw [List.length_map]; exact h0, by rw [List.length_map]; exact hz, fun d m' hd hm' => by
      obtain ⟨z, hz, rfl⟩ := List.mem_map.mp hd
      exact h z m' hz hm'⟩
theorem Bk.Law.lens {B : Bk} (h : B.Law) : (1 ≤ B.E.kinds.length ∧ B.E.kinds.length ≤ 3) ∧ (1 ≤ B.E.attrs.length ∧ B.E.attrs.length ≤ 4) ∧ (1 ≤ B.marks.length ∧ B.marks.length ≤ 4) ∧ B.reads.length ≤ 3 := by
  have h1 := h.eng.kinds
  have h2 := h.eng.attrs
  have h3 := h.good.marks
  unfold namesB at h1 h2 h3
  simp only [Bool.and_eq_true, decide_eq_true_eq] at h1 h2 h3
  exact ⟨by omega, by omega, by omega, h.good.l3⟩
theorem bval {B : Bk} {rd : D} : valD (bookEs B rd) (.inr "kinds") = some (.lst (sL B.E.kinds)) ∧ valD (bookEs B rd) (.inr "names") = some (.lst (sL B.E.attrs)) ∧ valD (bookEs B rd) (.inr "marks") = some (.lst (sL B.marks)) ∧ valD (bookEs B rd) (.inr "rules") = some rd ∧
    valD (bookEs B rd) (.inr "enters") = some (.lst (B.reads.map fun p => .lst (sL p.1))) ∧ valD (bookEs B rd) (.inr "through") = some (.lst (B.reads.map fun p => .lst (sL p.2))) ∧ valD (bookEs B rd) (.inr "passes") = some (.lst (lstL B.E.passes)) ∧ valD (bookEs B rd) (.inr "sources") = some (.dK B.E.srcIn) := ⟨rfl, rfl, rfl, rfl, rfl, rfl, rfl, rfl⟩
theorem read_law_any_atom {a : Adr} : ∀ ds μ Ξ Φ, w_law_any_atom a ds μ Ξ Φ → B_law_any_atom a { nx := fun _ μ' => Φ .non μ', rt := Φ } (startG n_law_any_atom ds) μ (fun _ => Ξ) := by
  rintro ds μ Ξ Φ ⟨tp, m, e, B, rd, rfl, ht, hm, etp, he, hB, h⟩
  unfold B_law_any_atom
  obtain ⟨⟨k1, k3⟩, ⟨a1, a4⟩, ⟨m1, m4⟩, _⟩ := hB.lens
  walk_at "d"
  refine ⟨sz_of (by decide), ?_⟩
  walk_at "d"
  refine ⟨_, dget_adr he bval.2.1, ?_⟩
  refine oAdd_lst (by rw [List.length_map]; simp; exact sz_of (by omega)) ?_
  walk_at "d"
  have e9 : ([.str "style", .str "insert", .str "remove", .str "move"] : List D) ++ sL B.E.attrs = sL (k_WORDS ++ B.E.attrs) := by rw [sL_app']; rfl
  rw [e9]
  refine one_str ht hm (by simp) (by simp; omega) fun ev m2 hev hm2 => ?_
  walk_at "d"
  refine ⟨ev, rfl, ?_⟩
  obtain ⟨p1, p4⟩ := lplaces_len ev
  walk_at "d"
  refine one_str updM_same hm2 p1 (by omega) fun p m3 hp hm3 => ?_
  rw [updM_updM]
  walk_at "d"
  refine ⟨_, dget_adr (by rw [updM_ne etp]; exact he) bval.1, ?_⟩
  walk_at "d"
  refine one_str updM_same hm3 k1 (by omega) fun k m4' hk hm4 => ?_
  rw [updM_updM]
  walk_at "d"
  refine ⟨_, dget_adr (by rw [updM_ne etp]; exact he) bval.2.2.1, ?_⟩
  walk_at "d"
  refine one_str updM_same hm4 m1 (by omega) fun z m5 hz hm5 => ?_
  rw [updM_updM]
  walk_at "d"
  exact ⟨sz_of (by show 4 ≤ _; decide), h k ev p z m5 hk hev hp hz hm5⟩
theorem ok_law_any_atom {P : Program} {w : World} {K : PySem.W.Frag} {mg : Str → Option Value} {base : Heap} {a : Adr} (T : Txt K mg a) (G_law_one : FnD P w K mg base 2 a.f_law_one (w_law_one a)) (G_law_places : FnD P w K mg base 1 a.f_law_places (w_law_places a)) : FnD P w K mg base 3 a.f_law_any_atom (w_law_any_atom a) := by
  obtain ⟨fd, F⟩ := T.F_law_any_atom.ex
  exact fn_D F (F.binds (ps := ["tape", "book"]) fun _ _ _ _ _ _ us hl => match us, hl with | [_, _], _ => rfl) sc_law_any_atom (fun ds μ Ξ Φ h => len_law_any_atom h) fun cdv A outer s H E hr => ⟨B_law_any_atom a, D_law_any_atom T G_law_one G_law_places cdv A outer s H E hr, fun ds μ Ξ Φ h => read_law_any_atom ds μ Ξ Φ h⟩
theorem len_law_add {a : Adr} {ds μ Ξ Φ} (h : w_law_add a ds μ Ξ Φ) : ds.length = 5 := by obtain ⟨_, _, _, _, _, _, _, _, _, rfl, _⟩ := h; rfl
theorem BkAt.ne {μ : Mu} {e r : Addr} {B : Bk} {tab : Rt} (h : BkAt μ e r B tab) : e ≠ r := fun z => by
  have h1 := h.hE
  rw [z, h.hR] at h1
  cases h1
theorem dT_getD {μ : Mu} {r : Addr} {tab : Rt} {k e p : Str} (h : μ r = some (.dT tab)) : dGetD μ (.adr r) (at3 k e p) = some (valD tab (key3 k e p)) := by
  show (dTM (μ r)).map (fun es => valD es (key3 k e p)) = _
  rw [h]; rfl
theorem isDct_T {μ : Mu} {r : Addr} {tab : Rt} (h : μ r = some (.dT tab)) : isDct μ (.adr r) := .inr ⟨tab, by show dTM (μ r) = _; rw [h]; rfl⟩
theorem read_law_add {a : Adr} : ∀ ds μ Ξ Φ, w_law_add a ds μ Ξ Φ → B_law_add a { nx := fun _ μ' => Φ .non μ', rt := Φ } (startG n_law_add ds) μ (fun _ => Ξ) := by
  rintro ds μ Ξ Φ ⟨e, k, ev, p, ms, r, B, tab, old, rfl, hb, ho, hz, ht, h⟩
  unfold B_law_add
  walk_at "d"
  refine ⟨_, dget_adr hb.hE bval.2.2.2.1, ?_⟩
  refine ⟨isDct_T hb.hR, ?_⟩
  walk_at "d"
  refine ⟨sz_of (by show 3 ≤ _; decide), ?_⟩
  walk_at "d"
  refine ⟨sz_of (by decide), _, dT_getD hb.hR, ?_⟩
  rw [ho]
  walk_at "d"
  refine lc_filter (xs := ms) D.str D.str (fun z => !decide (z ∈ old)) (sz_of (by omega)) trivial (fun z _ U hU => ?_) ?_
  · walk_at "d"
    refine oNotIn_strs rfl ?_
    walk_at "d"
    refine ite_nd (fun q => ?_) fun q => ?_
    · walk_at "d"
      rw [if_pos (by simpa using q)] at hU; exact hU
    · rw [if_neg (by simpa using q)] at hU; exact hU
  · have := List.length_filter_le (fun z => !decide (z ∈ old)) ms
    refine oAdd_lst (by rw [List.length_map, List.length_map]; exact sz_of (by omega)) ?_
    walk_at "d"
    refine ⟨_, dget_adr hb.hE bval.2.2.2.1, ?_⟩
    walk_at "d"
    refine ⟨sz_of (by show 3 ≤ _; decide), ?_⟩
    refine ⟨r, rfl, .inr ⟨tab, _, hb.hR, rfl, sz_lt (by omega), ?_⟩⟩
    rw [← sL_app']
    exact h
theorem ok_law_add {P : Program} {w : World} {K : PySem.W.Frag} {mg : Str → Option Value} {base : Heap} {a : Adr} (T : Txt K mg a)  : FnD P w K mg base 1 a.f_law_add (w_law_add a) := by
  obtain ⟨fd, F⟩ := T.F_law_add.ex
  exact fn_D F (F.binds (ps := ["book", "kind", "event", "place", "marks"]) fun _ _ _ _ _ _ us hl => match us, hl with | [_, _, _, _, _], _ => rfl) sc_law_add (fun ds μ Ξ Φ h => len_law_add h) fun cdv A outer s H E hr => ⟨B_law_add a, D_law_add T  cdv A outer s H E hr, fun ds μ Ξ Φ h => read_law_add ds μ Ξ Φ h⟩
theorem wordsB_places {B : Bk} (hB : B.Law) {ev : Str} (h : ev ∈ k_WORDS ++ B.E.attrs) : lplaces ev = placesB B.E.attrs ev ∧ ev ≠ "fence" := by
  rcases List.mem_append.mp h with h | h
  · simp only [k_WORDS, List.mem_cons, List.not_mem_nil, or_false] at h
    rcases h with rfl | rfl | rfl | rfl
    · exact ⟨by unfold lplaces placesB; rw [if_pos (.inl rfl), if_neg (by decide +kernel), if_neg (by decide +kernel), if_pos (by decide +kernel)], by decide +kernel⟩
    · exact ⟨by unfold lplaces placesB; rw [if_pos (.inr (.inl rfl)), if_neg (by decide +kernel), if_neg (by decide +kernel), if_pos (by decide +kernel)], by decide +kernel⟩
    · exact ⟨by unfold lplaces placesB; rw [if_neg (by decide +kernel), if_pos rfl, if_neg (by decide +kernel), if_pos rfl], by decide +kernel⟩
    · exact ⟨by unfold lplaces placesB; rw [if_pos (.inr (.inr rfl)), if_neg (by decide +kernel), if_neg (by decide +kernel), if_pos (by decide +kernel)], by decide +kernel⟩
  · have hw := hB.eng.words
    have nw : ∀ w ∈ k_WORDS ++ [("fence" : Str)], ev ≠ w := fun w hw2 e => hw w hw2 (e ▸ h)
    have n1 : ev ≠ "style" := nw _ (by decide +kernel)
    have n2 : ev ≠ "insert" := nw _ (by decide +kernel)
    have n3 : ev ≠ "remove" := nw _ (by decide +kernel)
    have n4 : ev ≠ "move" := nw _ (by decide +kernel)
    have n5 : ev ≠ "fence" := nw _ (by decide +kernel)
    refine ⟨?_, n5⟩
    unfold lplaces placesB
    rw [if_neg (by simp [n1, n2, n4]), if_neg n3, if_neg n5, if_neg n3, if_neg (by simp [k_WORDS, n1, n2, n3, n4]), if_pos h]
theorem LTab.holds {B : Bk} {tab : Rt} (h : LTab B tab) (k e p : Str) : ∃ ns, LHolds tab k e p ns ∧ ns.Nodup ∧ ∀ z ∈ ns, B.may e z = true := by
  cases hv : valD tab (key3 k e p) with
  | none => exact ⟨[], by unfold LHolds; rw [hv]; rfl, List.nodup_nil, by simp⟩
  | some d =>
    obtain ⟨k', e', p', ns, he, _, _, nd, hm⟩ := h.ent _ (valD_mem hv)
    cases he
    exact ⟨ns, by unfold LHolds; rw [hv]; rfl, nd, hm⟩
theorem may_mem {B : Bk} {e z : Str} (h : B.may e z = true) : z ∈ B.marks := by
  unfold Bk.may at h
  simp only [Bool.and_eq_true, decide_eq_true_eq] at h
  exact h.1
theorem putKD_keys {κ : Type} [DecidableEq κ] {es : List (κ × D)} {k : κ} {d : D} : (putKD es k d).map (·.1) = if k ∈ es.map (·.1) then es.map (·.1) else es.map (·.1) ++ [k] := by
  unfold putKD
  have ea : (es.any fun e => decide (e.1 = k)) = true ↔ k ∈ es.map (·.1) := by
    rw [List.any_eq_true]
    constructor
    · rintro ⟨x, hx, e⟩; exact List.mem_map.mpr ⟨x, hx, of_decide_eq_true e⟩
    · intro h; obtain ⟨x, hx, e⟩ := List.mem_map.mp h; exact ⟨x, hx, decide_eq_true e⟩
  by_cases q : k ∈ es.map (·.1)
  · rw [if_pos (ea.mpr q), if_pos q, List.map_map]
    refine List.map_congr_left fun x _ => ?_
    show (if x.1 = k then (x.1, d) else x).1 = x.1
    split <;> rfl
  · rw [if_neg (fun z => q (ea.mp z)), if_neg q, List.map_append]; rfl
theorem putKD_mem {κ : Type} [DecidableEq κ] {es : List (κ × D)} {k : κ} {d : D} {x : κ × D} (h : x ∈ putKD es k d) : x ∈ es ∨ x = (k, d) := by
  unfold putKD at h
  split at h
  · obtain ⟨y, hy, e⟩ := List.mem_map.mp h
    split at e
    · rename_i q; rw [← e, q]; exact .inr rfl
    · rw [← e]; exact .inl hy
  · rcases List.mem_append.mp h with h | h
    · exact .inl h
    · exact .inr (List.mem_singleton.mp h)
theorem LTab.put {B : Bk} {tab : Rt} (h : LTab B tab) {k e p : Str} {ns : List Str} (hk : k ∈ B.E.kinds) (hp : p ∈ placesB B.E.attrs e) (nd : ns.Nodup) (hm : ∀ z ∈ ns, B.may e z = true) : LTab B (putKD tab (key3 k e p) (.lst (sL ns))) := by
  refine ⟨?_, fun x hx => ?_⟩
  · rw [putKD_keys]
    split
    · exact h.nd
    · rename_i q
      exact List.nodup_append.mpr ⟨h.nd, by simp, fun x hx y hy e => by simp at hy; subst hy; subst e; exact q hx⟩
  · rcases putKD_mem hx with hx | rfl
    · exact h.ent x hx
    · exact ⟨k, e, p, ns, rfl, hk, hp, nd, hm⟩
theorem LTab.grow {B : Bk} {tab : Rt} (h : LTab B tab) {k e p z : Str} {old : List Str} (ho : LHolds tab k e p old) (hk : k ∈ B.E.kinds) (hp : p ∈ placesB B.E.attrs e) (hm : B.may e z = true) : LTab B (putKD tab (key3 k e p) (.lst (sL (old ++ [z].filter fun z => !decide (z ∈ old))))) := by
  obtain ⟨ns, h1, nd, hns⟩ := h.holds k e p
  have : ns = old := by
    unfold LHolds at h1 ho
    rw [h1] at ho
    injection ho with ho
    exact (List.map_inj_right (fun x y e => by injection e)).mp ho
  subst this
  refine h.put hk hp ?_ fun w hw => ?_
  · by_cases q : z ∈ ns
    · simp [List.filter_cons, q, nd]
    · have : [z].filter (fun z => !decide (z ∈ ns)) = [z] := by simp [List.filter_cons, q]
      rw [this]
      exact List.nodup_append.mpr ⟨nd, by simp, fun x hx y hy e => by simp at hy; subst hy; subst e; exact q hx⟩
  · rcases List.mem_append.mp hw with hw | hw
    · exact hns w hw
    · have := (List.mem_filter.mp hw).1
      rw [List.mem_singleton.mp this]; exact hm
theorem LTab.len {B : Bk} (hB : B.Law) {tab : Rt} (h : LTab B tab) {k e p : Str} {ns : List Str} (ho : LHolds tab k e p ns) : ns.length ≤ 4 ∧ ns.Nodup ∧ ∀ z ∈ ns, B.may e z = true := by
  obtain ⟨ms, h1, nd, hns⟩ := h.holds k e p
  have : ms = ns := by
    unfold LHolds at h1 ho
    rw [h1] at ho
    injection ho with ho
    exact (List.map_inj_right (fun x y e => by injection e)).mp ho
  subst this
  exact ⟨Nat.le_trans (nd_le2 nd fun z hz => may_mem (hns z hz)) hB.lens.2.2.1.2, nd, hns⟩
theorem len_law_more {a : Adr} {ds μ Ξ Φ} (h : w_law_more a ds μ Ξ Φ) : ds.length = 3 := by obtain ⟨_, _, _, _, _, _, _, rfl, _⟩ := h; rfl
theorem read_law_more {a : Adr} : ∀ ds μ Ξ Φ, w_law_more a ds μ Ξ Φ → B_law_more a { nx := fun _ μ' => Φ .non μ', rt := Φ } (startG n_law_more ds) μ (fun _ => Ξ) := by
  rintro ds μ Ξ Φ ⟨tp, m, e, r, B, tab, n, rfl, ht, hm, etp, rtp, hb, hl, hB, hz, h⟩
  unfold B_law_more
  walk_at "d"
  refine ⟨n, rfl, by omega, by omega, ?_⟩
  have er := hb.ne
  refine for_pre (xs := List.range (n : Int).toNat) (fun i : Nat => D.int (0 + i)) (fun ys γ' μ' => ∃ tab' m' o3 o4, γ' = [some (.adr tp), some (.adr e), some (.int n), o3, o4] ∧ μ' = updM (updM μ tp m') r (.dT tab') ∧ LTab B tab' ∧ tab'.length ≤ tab.length + ys.length ∧ IsTape m') ⟨tab, m, none, none, rfl, by rw [updM_self ht, updM_self hb.hR], hl, by simp, hm⟩ (fun _ _ _ _ => trivial) ?_ ?_
  · rintro ys i zs ei γ' μ' ⟨tab', m', o3, o4, rfl, rfl, hl', hz', hm'⟩ U hU
    have yl : ys.length + 1 ≤ n := by have := congrArg List.length ei; rw [List.length_append, List.length_cons, List.length_range] at this; omega
    have hb' : ∀ m' tab', BkAt (updM (updM μ tp m') r (.dT tab')) e r B tab' := fun m' tab' => ⟨by rw [updM_ne er, updM_ne etp]; exact hb.hE, updM_same⟩
    walk_at "d"
    refine ⟨tp, m', e, B, .adr r, rfl, by rw [updM_ne rtp.symm, updM_same], hm', etp, (hb' _ _).hE, hB, fun k ev p z m2 hk hev hp hz2 hm2 => ?_⟩
    rw [updM_upd2 rtp.symm]
    walk_at "d"
    refine oIx_items rfl rfl ?_
    walk_at "d"
    refine oIx_items rfl rfl ?_
    walk_at "d"
    refine oIx_items rfl rfl ?_
    walk_at "d"
    refine oIx_items rfl rfl ?_
    walk_at "d"
    refine ⟨sz_of (by show 1 ≤ _; decide), ?_⟩
    walk_at "d"
    obtain ⟨old, ho, ond, hom⟩ := hl'.holds k ev p
    obtain ⟨ep, nf⟩ := wordsB_places hB hev
    rw [ep] at hp
    have l4 := (hl'.len hB ho).1
    refine ⟨e, k, ev, p, [z], r, B, tab', old, rfl, hb' _ _, ho, by simp; omega, by omega, ?_⟩
    rw [updM_updM]
    refine hU _ _ ⟨_, m2, _, _, rfl, rfl, hl'.grow ho hk hp ?_, Nat.le_trans putKD_len (by rw [List.length_append]; simp; omega), hm2⟩
    unfold Bk.may
    rw [decide_eq_true hz2, decide_eq_false nf]; rfl
  · rintro γ' μ' ⟨tab', m', o3, o4, rfl, rfl, hl', hz', hm'⟩
    exact h tab' m' hl' (by rw [List.length_range] at hz'; omega) hm'
theorem ok_law_more {P : Program} {w : World} {K : PySem.W.Frag} {mg : Str → Option Value} {base : Heap} {a : Adr} (T : Txt K mg a) (G_law_any_atom : FnD P w K mg base 3 a.f_law_any_atom (w_law_any_atom a)) (G_law_add : FnD P w K mg base 1 a.f_law_add (w_law_add a)) : FnD P w K mg base 4 a.f_law_more (w_law_more a) := by
  obtain ⟨fd, F⟩ := T.F_law_more.ex
  exact fn_D F (F.binds (ps := ["tape", "book", "more"]) fun _ _ _ _ _ _ us hl => match us, hl with | [_, _, _], _ => rfl) sc_law_more (fun ds μ Ξ Φ h => len_law_more h) fun cdv A outer s H E hr => ⟨B_law_more a, D_law_more T G_law_any_atom G_law_add cdv A outer s H E hr, fun ds μ Ξ Φ h => read_law_more ds μ Ξ Φ h⟩
theorem len_law_ways {a : Adr} {ds μ Ξ Φ} (h : w_law_ways a ds μ Ξ Φ) : ds.length = 1 := by obtain ⟨_, _, _, rfl, _⟩ := h; rfl
theorem read_law_ways {a : Adr} : ∀ ds μ Ξ Φ, w_law_ways a ds μ Ξ Φ → B_law_ways a { nx := fun _ μ' => Φ .non μ', rt := Φ } (startG n_law_ways ds) μ (fun _ => Ξ) := by
  rintro ds μ Ξ Φ ⟨e, B, rd, rfl, he, hm4, hr3, h⟩
  unfold B_law_ways
  walk_at "d"
  refine ⟨_, dget_adr he bval.2.2.1, ?_⟩
  walk_at "d"
  refine lc_filter (xs := B.marks) D.str D.str B.way (sz_of (by omega)) trivial (fun z _ U hU => ?_) ?_
  · walk_at "d"
    refine ⟨_, dget_adr he bval.2.2.2.2.2.1, ?_⟩
    walk_at "d"
    refine lc_filter (xs := B.reads) (fun p => D.lst (sL p.2)) (fun p => D.lst (sL p.2)) (fun p => decide (z ∈ p.2)) (sz_of (by omega)) trivial (fun p _ V hV => ?_) ?_
    · walk_at "d"
      refine oIn_strs rfl ?_
      walk_at "d"
      refine ite_d (fun q => ?_) fun q => ?_
      · walk_at "d"
        rw [if_pos (by simpa using q)] at hV; exact hV
      · rw [if_neg (by simpa using q)] at hV; exact hV
    · walk_at "d"
      have ew : decide ((0 : Int) < (((B.reads.filter fun p => decide (z ∈ p.2)).map fun p => D.lst (sL p.2)).length : Int)) = B.way z := by
        rw [List.length_map]
        unfold Bk.way
        cases q : B.reads.any fun p => decide (z ∈ p.2) with
        | true =>
          obtain ⟨p, hp, hz⟩ := List.any_eq_true.mp q
          have : p ∈ B.reads.filter fun p => decide (z ∈ p.2) := List.mem_filter.mpr ⟨hp, hz⟩
          have := List.length_pos_of_mem this
          exact decide_eq_true (by omega)
        | false =>
          have : B.reads.filter (fun p => decide (z ∈ p.2)) = [] := List.filter_eq_nil_iff.mpr fun p hp w => by
            have := List.any_eq_false.mp q p hp
            exact this w
          rw [this]; rfl
      rw [ew]
      cases q : B.way z with
      | true =>
        walk_at "d"
        rw [q, if_pos rfl] at hU; exact hU
      | false =>
        walk_at "d"
        rw [q, if_neg (by simp)] at hU; exact hU
  · walk_at "d"
    exact h
theorem ok_law_ways {P : Program} {w : World} {K : PySem.W.Frag} {mg : Str → Option Value} {base : Heap} {a : Adr} (T : Txt K mg a)  : FnD P w K mg base 1 a.f_law_ways (w_law_ways a) := by
  obtain ⟨fd, F⟩ := T.F_law_ways.ex
  exact fn_D F (F.binds (ps := ["book"]) fun _ _ _ _ _ _ us hl => match us, hl with | [_], _ => rfl) sc_law_ways (fun ds μ Ξ Φ h => len_law_ways h) fun cdv A outer s H E hr => ⟨B_law_ways a, D_law_ways T  cdv A outer s H E hr, fun ds μ Ξ Φ h => read_law_ways ds μ Ξ Φ h⟩
theorem len_law_fence {a : Adr} {ds μ Ξ Φ} (h : w_law_fence a ds μ Ξ Φ) : ds.length = 2 := by obtain ⟨_, _, _, _, _, _, rfl, _⟩ := h; rfl
theorem read_law_fence {a : Adr} : ∀ ds μ Ξ Φ, w_law_fence a ds μ Ξ Φ → B_law_fence a { nx := fun _ μ' => Φ .non μ', rt := Φ } (startG n_law_fence ds) μ (fun _ => Ξ) := by
  rintro ds μ Ξ Φ ⟨tp, m, e, r, B, tab, rfl, ht, hm, etp, rtp, hb, hl, hB, hz, h⟩
  unfold B_law_fence
  obtain ⟨⟨k1, k3⟩, ⟨a1, a4⟩, ⟨m1, m4⟩, r3⟩ := hB.lens
  have er := hb.ne
  have stay : ∀ m', IsTape m' → Φ .non (updM μ tp m') := fun m' hm' => by
    have := h tab m' hl (by omega) hm'
    rwa [updM_self (by rw [updM_ne rtp]; exact hb.hR)] at this
  walk_at "d"
  refine ⟨e, B, _, rfl, hb.hE, m4, r3, ?_⟩
  walk_at "d"
  refine ⟨_, dget_adr hb.hE bval.2.2.1, ?_⟩
  walk_at "d"
  refine lc_filter (xs := B.marks) D.str D.str (fun z => !decide (z ∈ B.marks.filter B.way)) (sz_of (by omega)) trivial (fun z _ U hU => ?_) ?_
  · walk_at "d"
    refine oNotIn_strs rfl ?_
    walk_at "d"
    refine ite_nd (fun q => ?_) fun q => ?_
    · walk_at "d"
      rw [if_pos (by rw [decide_eq_false q]; rfl)] at hU; exact hU
    · rw [if_neg (by rw [decide_eq_true q]; simp)] at hU; exact hU
  · have fl := List.length_filter_le (fun z => !decide (z ∈ B.marks.filter B.way)) B.marks
    generalize hfs : B.marks.filter (fun z => !decide (z ∈ B.marks.filter B.way)) = fs at *
    walk_at "d"
    rw [List.length_map]
    refine ite_d (fun q => ?_) fun q => ?_
    · walk_at "d"
      refine ⟨tp, m, 3, rfl, ht, hm, by omega, by omega, fun c m2 c0 c1 hm2 => ?_⟩
      walk_at "d"
      refine ite_d (fun q2 => ?_) fun q2 => ?_
      · walk_at "d"
        refine ⟨_, dget_adr (by rw [updM_ne etp]; exact hb.hE) bval.1, ?_⟩
        walk_at "d"
        refine one_str updM_same hm2 k1 (by omega) fun k m3 hk hm3 => ?_
        rw [updM_updM]
        walk_at "d"
        refine one_str updM_same hm3 (by omega) (by omega) fun z m4' hz2 hm4 => ?_
        rw [updM_updM]
        walk_at "d"
        refine ⟨sz_of (by show 1 ≤ _; decide), ?_⟩
        walk_at "d"
        obtain ⟨old, ho, ond, hom⟩ := hl.holds k "fence" "up"
        have l4 := (hl.len hB ho).1
        have hb' : BkAt (updM μ tp m4') e r B tab := ⟨by rw [updM_ne etp]; exact hb.hE, by rw [updM_ne rtp]; exact hb.hR⟩
        refine ⟨e, k, "fence", "up", [z], r, B, tab, old, rfl, hb', ho, by simp; omega, by omega, ?_⟩
        rw [← hfs] at hz2
        obtain ⟨z1, z2⟩ := List.mem_filter.mp hz2
        refine h _ m4' (hl.grow ho hk (by unfold placesB; rw [if_pos rfl]; simp) ?_) putKD_len hm4
        unfold Bk.may
        rw [decide_eq_true z1]
        simp only [Bool.not_eq_true', decide_eq_false_iff_not, List.mem_filter, not_and] at z2
        have := z2 z1
        simp [Bool.eq_false_iff.mpr this]
      · exact stay m2 hm2
    · walk_at "d"
      have := stay m hm
      rwa [updM_self ht] at this
theorem ok_law_fence {P : Program} {w : World} {K : PySem.W.Frag} {mg : Str → Option Value} {base : Heap} {a : Adr} (T : Txt K mg a) (G_law_ways : FnD P w K mg base 1 a.f_law_ways (w_law_ways a)) (G_law_pick : FnD P w K mg base 1 a.f_law_pick (w_law_pick a)) (G_law_add : FnD P w K mg base 1 a.f_law_add (w_law_add a)) (G_law_one : FnD P w K mg base 2 a.f_law_one (w_law_one a)) : FnD P w K mg base 3 a.f_law_fence (w_law_fence a) := by
  obtain ⟨fd, F⟩ := T.F_law_fence.ex
  exact fn_D F (F.binds (ps := ["tape", "book"]) fun _ _ _ _ _ _ us hl => match us, hl with | [_, _], _ => rfl) sc_law_fence (fun ds μ Ξ Φ h => len_law_fence h) fun cdv A outer s H E hr => ⟨B_law_fence a, D_law_fence T G_law_ways G_law_pick G_law_add G_law_one cdv A outer s H E hr, fun ds μ Ξ Φ h => read_law_fence ds μ Ξ Φ h⟩

/-- _law_made_engine -/
abbrev n_law_made_engine : List Str := ["engine", "row"]
theorem sc_law_made_engine : FnScope n_law_made_engine ["engine"] (defScope s_law_made_engine) := ⟨rfl, rfl, rfl, by decide +kernel, rfl, by decide +kernel, by decide +kernel⟩
def B_law_made_engine (a : Adr) : TDS :=
  (dRet (dFrz (dCall (wMake a.C_Engine (w_Engine_d_init a)) (dCons (dBi bList (dCons (dOp oDGet (dVar 0) (dC (.str "kinds"))) dNil)) (dCons (dLc (dIt (dOp oDGet (dVar 0) (dC (.str "passes")))) (cNm 1) dYes (dTup (dCons (dOp oIx (dVar 1) (dC (.int 0))) (dCons (dBi bList (dCons (dOp oIx (dVar 1) (dC (.int 1))) dNil)) dNil))) [1]) (dCons (dOp oDGet (dVar 0) (dC (.str "sources"))) dNil))))))
theorem D_law_made_engine {P : Program} {w : World} {K : PySem.W.Frag} {mg : Str → Option Value} {base : Heap} {a : Adr} (T : Txt K mg a) (G_Engine_d_init : FnD P w K mg base 3 a.f_Engine_d_init (w_Engine_d_init a)) (cdv : Value) (A : Around) (outer : List PySem.Env) (s : Shared) (H : Hp) (E : XK) (hr : Room 4 (A.deeper (PyProof.Rows.envOfC "_law_made_engine" (defScope s_law_made_engine) s.heap.objs.size a.f_law_made_engine cdv))) :
    PSs (cxOf (L2.CX P w) P w K mg base n_law_made_engine "_law_made_engine" (defScope s_law_made_engine) a.f_law_made_engine cdv A outer s H E) (defBody s_law_made_engine) (tDS K (fun cls d _ H => E cls d H) (B_law_made_engine a)) := by
  have tk : Takes (cxOf (L2.CX P w) P w K mg base n_law_made_engine "_law_made_engine" (defScope s_law_made_engine) a.f_law_made_engine cdv A outer s H E) (fun cls d _ H => E cls d H) := takes_of rfl rfl rfl rfl
  exact (ss_one (s_ret (e_frz (e_call (cal_class T.mk_Engine G_Engine_d_init (hr.mono (by decide)) tk) T.g_Engine T.mk_Engine.kp (a_cons (e_bt call_list_of bd_list T.z_list (a_cons (e_dget (huD hr) (e_var 0) e_str) a_nil)) (a_cons (e_lc (own := [("row", 1)]) rfl sc_law_made_engine.nd (ct_name 1) (i_seq (e_dget (huD hr) (e_var 0) e_str)) (blkOk_by (own := [("row", 1)]) (N := n_law_made_engine) (sc := defScope s_law_made_engine) (by decide +kernel)) (fun _ _ _ _ _ => (pg_name (i := 1) sc_law_made_engine.nd rfl (by first | exact .inl rfl | exact .inr rfl))) (fun _ _ _ _ _ => ts_nil) (fun _ _ _ _ _ => (e_tup (a_cons (e_ix (e_var 1) e_int) (a_cons (e_bt call_list_of bd_list T.z_list (a_cons (e_ix (e_var 1) e_int) a_nil)) a_nil))))) (a_cons (e_dget (huD hr) (e_var 0) e_str) a_nil)))))))
/-- _law_made -/
abbrev n_law_made : List Str := ["book", "pairs", "made", "at", "mark", "k"]
theorem sc_law_made : FnScope n_law_made ["book"] (defScope s_law_made) := ⟨rfl, rfl, rfl, by decide +kernel, rfl, by decide +kernel, by decide +kernel⟩
def B_law_made (a : Adr) : TDS :=
  (dSeq (dAsg (dLc (dRng1 (dCons (dBi bLen (dCons (dOp oDGet (dVar 0) (dC (.str "passes"))) dNil)) dNil)) (cNm 5) dYes (dTup (dCons (dBi bList (dCons (dOp oIx (dOp oDGet (dVar 0) (dC (.str "enters"))) (dVar 5)) dNil)) (dCons (dBi bList (dCons (dOp oIx (dOp oDGet (dVar 0) (dC (.str "through"))) (dVar 5)) dNil)) dNil))) [5]) (gNm 1)) (dSeq (dAsg (dCall (wMake a.C_Book (w_Book_d_init a)) (dCons (dCall (w_law_made_engine a) (dCons (dVar 0) dNil)) (dCons (dBi bList (dCons (dOp oDGet (dVar 0) (dC (.str "marks"))) dNil)) (dCons (dVar 1) dNil)))) (gNm 2)) (dSeq (dLk (dFor (dItD (dOp oDGet (dVar 0) (dC (.str "rules")))) (gNm 3) (dFor (dIt (dOp oDGet (dOp oDGet (dVar 0) (dC (.str "rules"))) (dVar 3))) (gNm 4) (dAsg (dOp (oOwnB a.C_Marks (w_Marks_d_or a)) (dOwnIx a.C_Book (w_Book_d_getitem a) (dVar 2) (dTup (dCons (dOp oIx (dVar 3) (dC (.int 0))) (dCons (dOp oIx (dVar 3) (dC (.int 1))) (dCons (dOp oIx (dVar 3) (dC (.int 2))) dNil))))) (dCall (wMake a.C_Marks (w_Marks_d_init a)) (dCons (dVar 4) dNil))) (gOwn a.C_Book (w_Book_d_setitem a) (dVar 2) (dTup (dCons (dOp oIx (dVar 3) (dC (.int 0))) (dCons (dOp oIx (dVar 3) (dC (.int 1))) (dCons (dOp oIx (dVar 3) (dC (.int 2))) dNil))))))))) (dRet (dFgt (dVar 2))))))
theorem D_law_made {P : Program} {w : World} {K : PySem.W.Frag} {mg : Str → Option Value} {base : Heap} {a : Adr} (T : Txt K mg a) (G_Book_d_init : FnD P w K mg base 3 a.f_Book_d_init (w_Book_d_init a)) (G_law_made_engine : FnD P w K mg base 5 a.f_law_made_engine (w_law_made_engine a)) (G_Book_d_getitem : FnD P w K mg base 3 a.f_Book_d_getitem (w_Book_d_getitem a)) (G_Marks_d_init : FnD P w K mg base 1 a.f_Marks_d_init (w_Marks_d_init a)) (G_Marks_d_or : FnD P w K mg base 3 a.f_Marks_d_or (w_Marks_d_or a)) (G_Book_d_setitem : FnD P w K mg base 3 a.f_Book_d_setitem (w_Book_d_setitem a)) (cdv : Value) (A : Around) (outer : List PySem.Env) (s : Shared) (H : Hp) (E : XK) (hr : Room 5 (A.deeper (PyProof.Rows.envOfC "_law_made" (defScope s_law_made) s.heap.objs.size a.f_law_made cdv))) :
    PSs (cxOf (L2.CX P w) P w K mg base n_law_made "_law_made" (defScope s_law_made) a.f_law_made cdv A outer s H E) (defBody s_law_made) (tDS K (fun cls d _ H => E cls d H) (B_law_made a)) := by
  have tk : Takes (cxOf (L2.CX P w) P w K mg base n_law_made "_law_made" (defScope s_law_made) a.f_law_made cdv A outer s H E) (fun cls d _ H => E cls d H) := takes_of rfl rfl rfl rfl
  exact (ss_cons (s_setLc (own := [("k", 5)]) 1 rfl sc_law_made.nd (ct_name 5) (i_range1 T.z_range (a_cons (e_bi call_len bd_len T.z_len (a_cons (e_dget (huD hr) (e_var 0) e_str) a_nil)) a_nil)) (blkOk_by (own := [("k", 5)]) (N := n_law_made) (sc := defScope s_law_made) (by decide +kernel)) (fun _ _ _ _ _ => (pg_name (i := 5) sc_law_made.nd rfl (by first | exact .inl rfl | exact .inr rfl))) (fun _ _ _ _ _ => ts_nil) (fun _ _ _ _ _ => (e_tup (a_cons (e_bt call_list_of bd_list T.z_list (a_cons (e_ix (e_dget (huD hr) (e_var 0) e_str) (e_var 5)) a_nil)) (a_cons (e_bt call_list_of bd_list T.z_list (a_cons (e_ix (e_dget (huD hr) (e_var 0) e_str) (e_var 5)) a_nil)) a_nil))))) (ss_cons (s_set 2 sc_law_made.nd (e_call (cal_class T.mk_Book G_Book_d_init (hr.mono (by decide)) tk) T.g_Book T.mk_Book.kp (a_cons (e_call (cal_def G_law_made_engine (hr.mono (by decide)) tk) T.g_law_made_engine T.F_law_made_engine.kp (a_cons (e_var 0) a_nil)) (a_cons (e_bt call_list_of bd_list T.z_list (a_cons (e_dget (huD hr) (e_var 0) e_str) a_nil)) (a_cons (e_var 1) a_nil))))) (ss_cons (s_lk (s_for (passes_of rfl) rfl (i_keys (e_dget (huD hr) (e_var 0) e_str)) (g_name 3 sc_law_made.nd) (ss_one (s_for (passes_of rfl) rfl (i_seq (e_dget (huD hr) (e_dget (huD hr) (e_var 0) e_str) (e_var 3))) (g_name 4 sc_law_made.nd) (ss_one (s_asg (e_bin (op_ownB T.m_Marks_d_or T.sf_Marks G_Marks_d_or (hr.mono (by decide))) od_ownB (e_ownIx T.m_Book_d_getitem T.fi_Book_d_getitem G_Book_d_getitem (hr.mono (by decide)) tk (e_var 2) (e_tup (a_cons (e_ix (e_var 3) e_int) (a_cons (e_ix (e_var 3) e_int) (a_cons (e_ix (e_var 3) e_int) a_nil))))) (e_call (cal_class T.mk_Marks G_Marks_d_init (hr.mono (by decide)) tk) T.g_Marks T.mk_Marks.kp (a_cons (e_var 4) a_nil))) (g_own T.m_Book_d_setitem T.ns_Book G_Book_d_setitem (hr.mono (by decide)) tk (e_var 2) (e_tup (a_cons (e_ix (e_var 3) e_int) (a_cons (e_ix (e_var 3) e_int) (a_cons (e_ix (e_var 3) e_int) a_nil))))))))))) (ss_one (s_ret (e_fgt (e_var 2)))))))
theorem ent_get' {μ : Mu} {e : Addr} {k : Str} {d : D} {Φ : KD} (h : Ent (μ e) k d) (q : Φ d μ) : oDGet (.adr e) (.str k) μ Φ := by
  obtain ⟨es, h1, h2⟩ := h
  refine ⟨d, ?_, q⟩
  show (dKM (μ e)).map (fun es => valD es (.inr k)) = _
  rw [h1]; exact congrArg some h2
theorem len_law_made_engine {a : Adr} {ds μ Ξ Φ} (h : w_law_made_engine a ds μ Ξ Φ) : ds.length = 1 := by obtain ⟨_, _, rfl, _⟩ := h; rfl
theorem read_law_made_engine {a : Adr} : ∀ ds μ Ξ Φ, w_law_made_engine a ds μ Ξ Φ → B_law_made_engine a { nx := fun _ μ' => Φ .non μ', rt := Φ } (startG n_law_made_engine ds) μ (fun _ => Ξ) := by
  rintro ds μ Ξ Φ ⟨e, E, rfl, hE, h1, h2, h3, h⟩
  unfold B_law_made_engine
  walk_at "d"
  refine ent_get' h1 ?_
  walk_at "d"
  refine bList_items (xs := sL E.kinds) rfl ?_
  walk_at "d"
  refine ent_get' h2 ?_
  walk_at "d"
  have p3 := hE.p3
  refine lc_pure (xs := E.passes) (fun p => D.lst [.str p.1, .lst (sL p.2)]) (fun p => D.tup [.str p.1, .lst (sL p.2)]) (sz_of (by omega)) trivial (fun p _ U hU => ?_) ?_
  · walk_at "d"
    refine oIx_items rfl rfl ?_
    walk_at "d"
    refine oIx_items rfl rfl ?_
    walk_at "d"
    refine bList_items (xs := sL p.2) rfl ?_
    walk_at "d"
    exact ⟨sz_of (by show 2 ≤ _; decide), hU⟩
  · walk_at "d"
    refine ent_get' h3 ?_
    walk_at "d"
    intro x hx
    refine ⟨x, E, hE, rfl, updM_same, ⟨rfl, ?_⟩⟩
    rw [updM_updM]
    refine ⟨x, _, rfl, by rw [updM_same]; rfl, ?_⟩
    rw [delM_updM hx]
    exact h
theorem ok_law_made_engine {P : Program} {w : World} {K : PySem.W.Frag} {mg : Str → Option Value} {base : Heap} {a : Adr} (T : Txt K mg a) (G_Engine_d_init : FnD P w K mg base 3 a.f_Engine_d_init (w_Engine_d_init a)) : FnD P w K mg base 5 a.f_law_made_engine (w_law_made_engine a) := by
  obtain ⟨fd, F⟩ := T.F_law_made_engine.ex
  exact fn_D F (F.binds (ps := ["engine"]) fun _ _ _ _ _ _ us hl => match us, hl with | [_], _ => rfl) sc_law_made_engine (fun ds μ Ξ Φ h => len_law_made_engine h) fun cdv A outer s H E hr => ⟨B_law_made_engine a, D_law_made_engine T G_Engine_d_init cdv A outer s H E hr, fun ds μ Ξ Φ h => read_law_made_engine ds μ Ξ Φ h⟩
theorem putKD_nd {κ : Type} [DecidableEq κ] {es : List (κ × D)} {k : κ} {d : D} (h : (es.map (·.1)).Nodup) : ((putKD es k d).map (·.1)).Nodup := by
  rw [putKD_keys]
  split
  · exact h
  · rename_i q
    exact List.nodup_append.mpr ⟨h, by simp, fun x hx y hy e => by simp at hy; subst hy; subst e; exact q hx⟩
theorem len_law_made {a : Adr} {ds μ Ξ Φ} (h : w_law_made a ds μ Ξ Φ) : ds.length = 1 := by obtain ⟨_, _, _, _, rfl, _⟩ := h; rfl
theorem read_law_made {a : Adr} : ∀ ds μ Ξ Φ, w_law_made a ds μ Ξ Φ → B_law_made a { nx := fun _ μ' => Φ .non μ', rt := Φ } (startG n_law_made ds) μ (fun _ => Ξ) := by
  rintro ds μ Ξ Φ ⟨e, r, B, tab, rfl, hb, hl, hB, hz, h⟩
  unfold B_law_made
  obtain ⟨⟨k1, k3⟩, ⟨a1, a4⟩, ⟨m1, m4⟩, r3⟩ := hB.lens
  have er := hb.ne
  walk_at "d"
  refine ⟨_, dget_adr hb.hE bval.2.2.2.2.2.2.1, ?_⟩
  walk_at "d"
  have cl : (lstL B.E.passes).length = B.reads.length := by unfold lstL; rw [List.length_map, hB.good.len]
  rw [cl]
  refine ⟨B.reads.length, rfl, by omega, by omega, ?_⟩
  refine lc_pre (xs := List.range ((B.reads.length : Nat) : Int).toNat) (fun i : Nat => D.int (0 + i)) (fun ys acc μ' => ys.length ≤ 3 ∧ acc = (B.readIn false).take ys.length ∧ μ' = μ) ⟨by simp, by simp, rfl⟩ (fun _ _ _ _ => trivial) ?_ ?_
  · rintro ys k zs ek acc μ' ⟨yl, rfl, rfl⟩ U hU _
    have kl : k < B.reads.length := by have : k ∈ List.range ((B.reads.length : Nat) : Int).toNat := by rw [ek]; simp
                                       have := List.mem_range.mp this; omega
    have ky : k = ys.length := by
      have h1 : (List.range ((B.reads.length : Nat) : Int).toNat)[ys.length]? = some k := by rw [ek]; simp
      obtain ⟨hl, e1⟩ := List.getElem?_eq_some_iff.mp h1
      rw [List.getElem_range] at e1; exact e1.symm
    have g : B.reads[k]? = some B.reads[k] := List.getElem?_eq_getElem kl
    walk_at "d"
    refine ⟨_, dget_adr hb.hE bval.2.2.2.2.1, ?_⟩
    walk_at "d"
    refine oIx_items rfl (by rw [Int.zero_add]; exact atIn (x := .lst (sL (B.reads[k]).1)) (by rw [List.getElem?_map, g]; rfl)) ?_
    walk_at "d"
    refine bList_items (xs := sL (B.reads[k]).1) rfl ?_
    walk_at "d"
    refine ⟨_, dget_adr hb.hE bval.2.2.2.2.2.1, ?_⟩
    walk_at "d"
    refine oIx_items rfl (by rw [Int.zero_add]; exact atIn (x := .lst (sL (B.reads[k]).2)) (by rw [List.getElem?_map, g]; rfl)) ?_
    walk_at "d"
    refine bList_items (xs := sL (B.reads[k]).2) rfl ?_
    walk_at "d"
    refine ⟨sz_of (by show 2 ≤ _; decide), ?_⟩
    refine hU _ _ (sz_lt (by rw [List.length_take]; omega)) ⟨by rw [List.length_append]; simp; omega, ?_, rfl⟩
    rw [List.length_append, List.length_singleton, List.take_succ]
    congr 1
    unfold Bk.readIn
    rw [List.getElem?_map, ← ky, g]; rfl
  rintro acc μ' ⟨_, rfl, rfl⟩
  have rt : (B.readIn false).take (List.range ((B.reads.length : Nat) : Int).toNat).length = B.readIn false := by
    refine List.take_of_length_le ?_
    unfold Bk.readIn
    rw [List.length_map, List.length_range]; omega
  rw [rt]
  walk_at "d"
  have ent : ∀ {k : Str} {d : D}, valD (bookEs B (.adr r)) (.inr k) = some d → Ent (μ' e) k d := fun hv => ⟨_, by rw [hb.hE]; rfl, hv⟩
  refine ⟨e, B.E, rfl, hB.eng, ent bval.1, ent bval.2.2.2.2.2.2.1, ent bval.2.2.2.2.2.2.2, ?_⟩
  walk_at "d"
  refine ⟨_, dget_adr hb.hE bval.2.2.1, ?_⟩
  walk_at "d"
  refine bList_items (xs := sL B.marks) rfl ?_
  walk_at "d"
  intro b hb0
  refine ⟨b, B, false, rfl, hB.good, updM_same, fun r2 hr2 => ⟨rfl, ?_⟩⟩
  have br2 : b ≠ r2 := fun z => by rw [← z, updM_same] at hr2; cases hr2
  rw [updM_ne br2.symm] at hr2
  rw [updM_updM]
  have hfin := fun tab2 q => h b r2 tab2 q hb0 hr2 br2
  have be : b ≠ e := mu_ne' hb.hE hb0
  have br : b ≠ r := mu_ne' hb.hR hb0
  have r2e : r2 ≠ e := mu_ne' hb.hE hr2
  have r2r : r2 ≠ r := mu_ne' hb.hR hr2
  -- the store
  have s_e : updM (updM μ' b (.ins a.C_Book (B.flds a.C_Engine (.adr r2)))) r2 (.dT []) e = some (.dK (bookEs B (.adr r))) := by rw [updM_ne r2e.symm, updM_ne be.symm]; exact hb.hE
  have s_r : updM (updM μ' b (.ins a.C_Book (B.flds a.C_Engine (.adr r2)))) r2 (.dT []) r = some (.dT tab) := by rw [updM_ne r2r.symm, updM_ne br.symm]; exact hb.hR
  have s_b : updM (updM μ' b (.ins a.C_Book (B.flds a.C_Engine (.adr r2)))) r2 (.dT []) b = some (.ins a.C_Book (B.flds a.C_Engine (.adr r2))) := by rw [updM_ne br2, updM_same]
  have s_2 : updM (updM μ' b (.ins a.C_Book (B.flds a.C_Engine (.adr r2)))) r2 (.dT []) r2 = some (.dT []) := updM_same
  have s_x : ∀ x m, μ' x = some m → updM (updM μ' b (.ins a.C_Book (B.flds a.C_Engine (.adr r2)))) r2 (.dT []) x = some m := fun x m hx => by
    rw [updM_ne (mu_ne hx hr2), updM_ne (mu_ne hx hb0)]; exact hx
  generalize updM (updM μ' b (.ins a.C_Book (B.flds a.C_Engine (.adr r2)))) r2 (.dT []) = μ1 at *
  refine dSeq_to (fun γ' μ2 => ∃ o3 o4 tab2, γ' = [some (.adr e), some (.lst (B.readIn false)), some (.adr b), o3, o4, none] ∧ (∀ x m, μ' x = some m → μ2 x = some m) ∧ μ2 b = some (.ins a.C_Book (B.flds a.C_Engine (.adr r2))) ∧ μ2 r2 = some (.dT tab2) ∧ RulesOf tab tab2) ?_ fun U hU => ?_
  · rintro γ' μ2 ⟨o3, o4, tab2, rfl, hx, h1, h2, hq⟩
    walk_at "d"
    refine ⟨_, fun x m hm => ?_, hfin tab2 hq⟩
    by_cases q1 : x = r2
    · subst q1; rw [updM_same] at hm; cases hm; exact h2
    rw [updM_ne q1] at hm
    by_cases q2 : x = b
    · subst q2; rw [updM_same] at hm; cases hm; exact h1
    rw [updM_ne q2] at hm
    exact hx x m hm
  · refine ⟨r, .inr ⟨tab, s_r, fun ob kvs => ?_⟩⟩
    have t_r : updM μ1 r (.lT ob kvs tab) r = some (.lT ob kvs tab) := updM_same
    have t_o : ∀ x m, x ≠ r → μ1 x = some m → updM μ1 r (.lT ob kvs tab) x = some m := fun x m n hx => by rw [updM_ne n]; exact hx
    have t_k : ∀ x m, updM μ1 r (.lT ob kvs tab) x = some m → x = r ∨ μ1 x = some m := fun x m hx => by
      by_cases q : x = r
      · exact .inl q
      · rw [updM_ne q] at hx; exact .inr hx
    have t_e := t_o e _ er s_e
    have t_b := t_o b _ br s_b
    have t_2 := t_o r2 _ r2r s_2
    have t_x : ∀ x m, x ≠ r → μ' x = some m → updM μ1 r (.lT ob kvs tab) x = some m := fun x m n hx => t_o x m n (s_x x m hx)
    generalize updM μ1 r (.lT ob kvs tab) = μ2 at t_r t_e t_b t_2 t_x ⊢
    walk_at "d"
    refine ⟨_, dget_adr t_e bval.2.2.2.1, ?_⟩
    refine .inr (.inr (.inr ⟨r, ob, kvs, tab, rfl, t_r, ?_⟩))
    rw [List.map_map]
    let kD : List Key × D → D := fun x => tkeyOf x.1
    refine for_pre (xs := tab) kD (fun done γ' μ3 => ∃ o3 o4 tab2, γ' = [some (.adr e), some (.lst (B.readIn false)), some (.adr b), o3, o4, none] ∧ (∀ x m, x ≠ r → μ' x = some m → μ3 x = some m) ∧ μ3 r = some (.lT ob kvs tab) ∧ μ3 b = some (.ins a.C_Book (B.flds a.C_Engine (.adr r2))) ∧ μ3 r2 = some (.dT tab2) ∧ (tab2.map (·.1)).Nodup ∧
      (∀ x ∈ tab2, x.1 ∈ done.map (·.1)) ∧ ∀ k ev p ns, (key3 k ev p, D.lst (sL ns)) ∈ done → ∃ ys, SetOf ys (· ∈ ns) ∧ Holds tab2 k ev p ys) ⟨none, none, [], rfl, t_x, t_r, t_b, t_2, List.nodup_nil, by simp, by simp⟩ (fun _ _ _ ⟨_, _, _, _, _, q, _⟩ => q) ?_ ?_
    · clear t_r t_e t_b t_2 t_x
      rintro done x zs ex γ' μ3 ⟨o3, o4, tab2, rfl, hx, h_r, h_b, h_2, hl2, hk2, hd2⟩ V hV
      have xin : x ∈ tab := by rw [ex]; simp
      obtain ⟨k, ev, p, ns, rfl, hk, hp, nnd, hmay⟩ := hl.ent x xin
      have xnd : key3 k ev p ∉ done.map (·.1) := fun w => by
        have := hl.nd
        rw [ex, List.map_append, List.map_cons] at this
        exact (List.nodup_append.mp this).2.2 _ w _ (by simp) rfl
      have dl : done.length + 1 ≤ tab.length := by have := congrArg List.length ex; rw [List.length_append, List.length_cons] at this; omega
      have nl : ns.length ≤ 4 := Nat.le_trans (nd_le2 nnd fun z hz => may_mem (hmay z hz)) m4
      have hhas : B.has k ev p = true := by unfold Bk.has; rw [decide_eq_true hk, decide_eq_true hp]; rfl
      have vtab : valD tab (key3 k ev p) = some (.lst (sL ns)) := by
        have : ∀ (T : Rt), (T.map (·.1)).Nodup → (key3 k ev p, D.lst (sL ns)) ∈ T → valD T (key3 k ev p) = some (.lst (sL ns)) := by
          intro T
          induction T with
          | nil => intro _ w; cases w
          | cons u T ih =>
            intro nd w
            rw [List.map_cons, List.nodup_cons] at nd
            rcases List.mem_cons.mp w with w | w
            · rw [← w]; exact valD_pos rfl
            · rw [valD_neg (fun e => nd.1 (by rw [e]; exact List.mem_map.mpr ⟨_, w, rfl⟩))]; exact ih nd.2 w
        exact this tab hl.nd xin
      walk_at "d"
      refine ⟨_, dget_adr (hx e _ er hb.hE) bval.2.2.2.1, ?_⟩
      walk_at "d"
      refine ⟨.lst (sL ns), by show (dTM (μ3 r)).map _ = _; rw [h_r]; exact congrArg some vtab, ?_⟩
      walk_at "d"
      have v2 : valD tab2 (key3 k ev p) = none := valD_no fun y hy e1 => xnd (by rw [← e1]; exact hk2 y hy)
      refine for_pre (xs := ns) D.str (fun ms γ' μ3 => ∃ o4 tab3 ys, γ' = [some (.adr e), some (.lst (B.readIn false)), some (.adr b), some (at3 k ev p), o4, none] ∧ (∀ x m, x ≠ r → μ' x = some m → μ3 x = some m) ∧ μ3 r = some (.lT ob kvs tab) ∧ μ3 b = some (.ins a.C_Book (B.flds a.C_Engine (.adr r2))) ∧ μ3 r2 = some (.dT tab3) ∧ (tab3.map (·.1)).Nodup ∧
        (∀ x ∈ tab3, x.1 ∈ (done ++ [(key3 k ev p, D.lst (sL ns))]).map (·.1)) ∧ (∀ q, q ≠ key3 k ev p → valD tab3 q = valD tab2 q) ∧ SetOf ys (· ∈ ms) ∧ Holds tab3 k ev p ys) ⟨o4, tab2, [], rfl, hx, h_r, h_b, h_2, hl2, fun y hy => by rw [List.map_append]; exact List.mem_append_left _ (hk2 y hy), fun _ _ => rfl, ⟨.nil, by simp⟩, by unfold Holds; rw [v2]; rfl⟩ (fun _ _ _ _ => trivial) ?_ ?_
      · clear hx h_r h_b h_2 hd2
        rintro ms z ws ez γ' μ3 ⟨o4, tab3, ys, rfl, hx, h_r, h_b, h_2, hl3, hk3, hv3, hS, hH⟩ T hT
        have zin : z ∈ ns := by rw [ez]; simp
        have msl : ms.length ≤ 4 := by have := congrArg List.length ez; rw [List.length_append] at this; omega
        have ysl : ys.length ≤ 4 := Nat.le_trans (hS.len (ys := ms) fun z h => h) msl
        have fin : ∀ (μ3 : Mu) (o4 : Option D) (y3 : List Str), SetOf y3 (· ∈ ms ++ [z]) → (∀ x m, x ≠ r → μ' x = some m → μ3 x = some m) → μ3 r = some (.lT ob kvs tab) → μ3 b = some (.ins a.C_Book (B.flds a.C_Engine (.adr r2))) → T [some (.adr e), some (.lst (B.readIn false)), some (.adr b), some (at3 k ev p), o4, none] (updM μ3 r2 (.dT (putKD tab3 (key3 k ev p) (.tup (sL y3))))) := fun μ3 o4 y3 hS3 hx h_r h_b => by
          refine hT _ _ ⟨o4, _, y3, rfl, fun x m n hxm => by rw [updM_ne (mu_ne hxm hr2)]; exact hx x m n hxm, by rw [updM_ne r2r.symm]; exact h_r, by rw [updM_ne br2]; exact h_b, updM_same, ?_, fun y hy => ?_, fun q nq => by rw [valD_put, if_neg nq]; exact hv3 q nq, hS3, by unfold Holds; rw [valD_put, if_pos rfl]; rfl⟩
          · exact putKD_nd hl3
          · rcases putKD_mem hy with hy | rfl
            · exact hk3 y hy
            · rw [List.map_append]; exact List.mem_append_right _ (by simp)
        have t3l : tab3.length ≤ 1001 := by
          have := nd_le2 hl3 (ys := (done ++ [(key3 k ev p, D.lst (sL ns))]).map (·.1)) fun q hq => by obtain ⟨y, hy, rfl⟩ := List.mem_map.mp hq; exact hk3 y hy
          rw [List.length_map, List.length_map, List.length_append, List.length_singleton] at this
          omega
        walk_at "d"
        refine oIx_items rfl rfl ?_
        walk_at "d"
        refine oIx_items rfl rfl ?_
        walk_at "d"
        refine oIx_items rfl rfl ?_
        walk_at "d"
        refine ⟨sz_of (by show 3 ≤ _; decide), ?_⟩
        refine ⟨⟨_, ins_adr h_b⟩, ?_⟩
        refine ⟨.adr b, B, .adr r2, tab3, k, ev, p, ys, rfl, ins_adr h_b, by show dTM (μ3 r2) = _; rw [h_2]; rfl, hH, by omega, fun _ q y1 hq hS1 => ?_, fun w => by rw [hhas] at w; cases w⟩
        have x1 : ∀ x m, μ3 x = some m → updM μ3 q (MkM a.C_Marks y1) x = some m := fun x m hm => by rw [updM_ne (mu_ne hm hq)]; exact hm
        have q1 : updM μ3 q (MkM a.C_Marks y1) q = some (MkM a.C_Marks y1) := updM_same
        have hx := fun x m n hm => x1 x m (hx x m n hm)
        have h_r := x1 _ _ h_r
        have h_b := x1 _ _ h_b
        have h_2 := x1 _ _ h_2
        clear x1
        generalize updM μ3 q (MkM a.C_Marks y1) = μ4 at *
        have y1l : y1.length ≤ 4 := Nat.le_trans (hS1.len (ys := ys) fun z h => h) ysl
        walk_at "d"
        show wMake a.C_Marks (w_Marks_d_init a) (sL [z]) _ _ _
        refine make_Marks (by simp) fun q2 y2 hq2 hS2 => ?_
        have x1 : ∀ x m, μ4 x = some m → updM μ4 q2 (MkM a.C_Marks y2) x = some m := fun x m hm => by rw [updM_ne (mu_ne hm hq2)]; exact hm
        have q3 : updM μ4 q2 (MkM a.C_Marks y2) q2 = some (MkM a.C_Marks y2) := updM_same
        have q1 := x1 _ _ q1
        have hx := fun x m n hm => x1 x m (hx x m n hm)
        have h_r := x1 _ _ h_r
        have h_b := x1 _ _ h_b
        have h_2 := x1 _ _ h_2
        clear x1
        generalize updM μ4 q2 (MkM a.C_Marks y2) = μ5 at *
        have y2l : y2.length ≤ 1 := hS2.len (ys := [z]) fun z h => h
        refine own2 q1 q3 (by omega) fun q4 y3 hq4 hS3 => ?_
        have x1 : ∀ x m, μ5 x = some m → updM μ5 q4 (MkM a.C_Marks y3) x = some m := fun x m hm => by rw [updM_ne (mu_ne hm hq4)]; exact hm
        have q5 : updM μ5 q4 (MkM a.C_Marks y3) q4 = some (MkM a.C_Marks y3) := updM_same
        have hx := fun x m n hm => x1 x m (hx x m n hm)
        have h_r := x1 _ _ h_r
        have h_b := x1 _ _ h_b
        have h_2 := x1 _ _ h_2
        clear x1
        generalize updM μ5 q4 (MkM a.C_Marks y3) = μ6 at *
        have hS4 : SetOf y3 (· ∈ ms ++ [z]) := hS3.to fun w => by
          exact (or_congr ((hS1.2 w).trans (hS.2 w)) (hS2.2 w)).trans List.mem_append.symm
        walk_at "d"
        refine oIx_items rfl rfl ?_
        walk_at "d"
        refine oIx_items rfl rfl ?_
        walk_at "d"
        refine oIx_items rfl rfl ?_
        walk_at "d"
        refine ⟨sz_of (by show 3 ≤ _; decide), ?_⟩
        refine ⟨⟨_, ins_adr h_b⟩, ?_⟩
        have allm : (B.has k ev p && y3.all (B.may ev)) = true := by
          rw [hhas, Bool.true_and]
          refine List.all_eq_true.mpr fun w hw => ?_
          have := (hS4.2 w).mp hw
          refine hmay w ?_
          rw [ez]
          rcases List.mem_append.mp this with h | h
          · exact List.mem_append_left _ h
          · rw [List.mem_singleton.mp h]; exact List.mem_append_right _ (by simp)
        exact ⟨.adr b, B, r2, tab3, k, ev, p, q4, y3, rfl, ins_adr h_b, r3, h_2, by omega, q5, fun _ => fin μ6 _ y3 hS4 hx h_r h_b, fun w => by rw [allm] at w; cases w⟩
      · clear hx h_r h_b h_2
        rintro γ' μ3 ⟨o4, tab3, ys, rfl, hx, h_r, h_b, h_2, hl3, hk3, hv3, hS, hH⟩
        refine hV _ _ ⟨_, _, tab3, rfl, hx, h_r, h_b, h_2, hl3, hk3, fun k' ev' p' ns' hd => ?_⟩
        rcases List.mem_append.mp hd with hd | hd
        · obtain ⟨ys', s1, s2⟩ := hd2 k' ev' p' ns' hd
          refine ⟨ys', s1, ?_⟩
          unfold Holds
          rw [hv3 _ fun e1 => xnd (by rw [← e1]; exact List.mem_map.mpr ⟨_, hd, rfl⟩)]
          exact s2
        · have e1 := List.mem_singleton.mp hd
          injection e1 with e1 e2
          injection e2 with e2
          have e3 : ns' = ns := (List.map_inj_right (fun x y e => by injection e)).mp e2
          injection e1 with e1 e4
          injection e4 with e4 e5
          injection e5 with e5 _
          injection e1 with e1
          injection e4 with e4
          injection e5 with e5
          subst e1; subst e4; subst e5; subst e3
          exact ⟨ys, hS, hH⟩
    · rintro γ' μ3 ⟨o3, o4, tab2, rfl, hx, h_r, h_b, h_2, hl2, hk2, hd2⟩
      refine ⟨h_r, hU _ _ ⟨o3, o4, tab2, rfl, fun x m hm => ?_, by rw [updM_ne br]; exact h_b, by rw [updM_ne r2r]; exact h_2, ?_, fun k ev p ns hH => ?_⟩⟩
      · by_cases q : x = r
        · subst q; rw [updM_same]; rw [hb.hR] at hm; exact hm
        · rw [updM_ne q]; exact hx x m q hm
      · have := nd_le2 hl2 (ys := tab.map (·.1)) fun q hq => by obtain ⟨y, hy, rfl⟩ := List.mem_map.mp hq; exact hk2 y hy
        rwa [List.length_map, List.length_map] at this
      · cases hv : valD tab (key3 k ev p) with
        | none =>
          unfold LHolds at hH
          rw [hv] at hH
          injection hH with hH
          have : ns = [] := by cases ns with
            | nil => rfl
            | cons _ _ => cases hH
          subst this
          refine ⟨[], ⟨.nil, by simp⟩, ?_⟩
          unfold Holds
          rw [valD_no fun y hy e1 => ?_]
          · rfl
          · obtain ⟨u, hu, e2⟩ := List.mem_map.mp (hk2 y hy)
            have w : ∀ (T : Rt), u ∈ T → u.1 = key3 k ev p → valD T (key3 k ev p) ≠ none := by
              intro T
              induction T with
              | nil => intro h; cases h
              | cons v T ih =>
                intro h e
                by_cases q : v.1 = key3 k ev p
                · rw [valD_pos q]; simp
                · rw [valD_neg q]
                  rcases List.mem_cons.mp h with h | h
                  · exact absurd (by rw [← h]; exact e) q
                  · exact ih h e
            exact w tab hu (e2.trans e1) hv
        | some d =>
          unfold LHolds at hH
          rw [hv] at hH
          have e1 : d = .lst (sL ns) := hH
          subst e1
          exact hd2 k ev p ns (valD_mem hv)
theorem ok_law_made {P : Program} {w : World} {K : PySem.W.Frag} {mg : Str → Option Value} {base : Heap} {a : Adr} (T : Txt K mg a) (G_Book_d_init : FnD P w K mg base 3 a.f_Book_d_init (w_Book_d_init a)) (G_law_made_engine : FnD P w K mg base 5 a.f_law_made_engine (w_law_made_engine a)) (G_Book_d_getitem : FnD P w K mg base 3 a.f_Book_d_getitem (w_Book_d_getitem a)) (G_Marks_d_init : FnD P w K mg base 1 a.f_Marks_d_init (w_Marks_d_init a)) (G_Marks_d_or : FnD P w K mg base 3 a.f_Marks_d_or (w_Marks_d_or a)) (G_Book_d_setitem : FnD P w K mg base 3 a.f_Book_d_setitem (w_Book_d_setitem a)) : FnD P w K mg base 6 a.f_law_made (w_law_made a) := by
  obtain ⟨fd, F⟩ := T.F_law_made.ex
  exact fn_D F (F.binds (ps := ["book"]) fun _ _ _ _ _ _ us hl => match us, hl with | [_], _ => rfl) sc_law_made (fun ds μ Ξ Φ h => len_law_made h) fun cdv A outer s H E hr => ⟨B_law_made a, D_law_made T G_Book_d_init G_law_made_engine G_Book_d_getitem G_Marks_d_init G_Marks_d_or G_Book_d_setitem cdv A outer s H E hr, fun ds μ Ξ Φ h => read_law_made ds μ Ξ Φ h⟩

/-- _law_rule -/
abbrev n_law_rule : List Str := ["book", "kind", "event", "place", "names", "mark"]
theorem sc_law_rule : FnScope n_law_rule ["book", "kind", "event", "place"] (defScope s_law_rule) := ⟨rfl, rfl, rfl, by decide +kernel, rfl, by decide +kernel, by decide +kernel⟩
def B_law_rule (a : Adr) : TDS :=
  (dSeq (dAsg (dDGet2 (dOp oDGet (dVar 0) (dC (.str "rules"))) (dTup (dCons (dVar 1) (dCons (dVar 2) (dCons (dVar 3) dNil)))) (dLst dNil)) (gNm 4)) (dRet (dBi bTuple (dCons (dLc (dIt (dOp oDGet (dVar 0) (dC (.str "marks")))) (cNm 5) (dTest (dOp (oIn false) (dVar 5) (dVar 4))) (dVar 5) [5]) dNil))))
theorem D_law_rule {P : Program} {w : World} {K : PySem.W.Frag} {mg : Str → Option Value} {base : Heap} {a : Adr} (T : Txt K mg a)  (cdv : Value) (A : Around) (outer : List PySem.Env) (s : Shared) (H : Hp) (E : XK) (hr : Room 0 (A.deeper (PyProof.Rows.envOfC "_law_rule" (defScope s_law_rule) s.heap.objs.size a.f_law_rule cdv))) :
    PSs (cxOf (L2.CX P w) P w K mg base n_law_rule "_law_rule" (defScope s_law_rule) a.f_law_rule cdv A outer s H E) (defBody s_law_rule) (tDS K (fun cls d _ H => E cls d H) (B_law_rule a)) := by
  have tk : Takes (cxOf (L2.CX P w) P w K mg base n_law_rule "_law_rule" (defScope s_law_rule) a.f_law_rule cdv A outer s H E) (fun cls d _ H => E cls d H) := takes_of rfl rfl rfl rfl
  exact (ss_cons (s_set 4 sc_law_rule.nd (e_dget2 (huD hr) (e_dget (huD hr) (e_var 0) e_str) (e_tup (a_cons (e_var 1) (a_cons (e_var 2) (a_cons (e_var 3) a_nil)))) (e_lst a_nil))) (ss_one (s_ret (e_bt call_tuple_of bd_tuple T.z_tuple (a_cons (e_lc (own := [("mark", 5)]) rfl sc_law_rule.nd (ct_name 5) (i_seq (e_dget (huD hr) (e_var 0) e_str)) (blkOk_by (own := [("mark", 5)]) (N := n_law_rule) (sc := defScope s_law_rule) (by decide +kernel)) (fun _ _ _ _ _ => (pg_name (i := 5) sc_law_rule.nd rfl (by first | exact .inl rfl | exact .inr rfl))) (fun _ _ _ _ _ => (ts_one (t_cmp op_in_seq od_in (e_var 5) (e_var 4)))) (fun _ _ _ _ _ => (e_var 5))) a_nil)))))
/-- _law_meets -/
abbrev n_law_meets : List Str := ["one", "two", "mark"]
theorem sc_law_meets : FnScope n_law_meets ["one", "two"] (defScope s_law_meets) := ⟨rfl, rfl, rfl, by decide +kernel, rfl, by decide +kernel, by decide +kernel⟩
def B_law_meets (a : Adr) : TDS :=
  (dRet (dOp oGt (dBi bLen (dCons (dLc (dIt (dVar 0)) (cNm 2) (dTest (dOp (oIn false) (dVar 2) (dVar 1))) (dVar 2) [2]) dNil)) (dC (.int 0))))
theorem D_law_meets {P : Program} {w : World} {K : PySem.W.Frag} {mg : Str → Option Value} {base : Heap} {a : Adr} (T : Txt K mg a)  (cdv : Value) (A : Around) (outer : List PySem.Env) (s : Shared) (H : Hp) (E : XK) (hr : Room 0 (A.deeper (PyProof.Rows.envOfC "_law_meets" (defScope s_law_meets) s.heap.objs.size a.f_law_meets cdv))) :
    PSs (cxOf (L2.CX P w) P w K mg base n_law_meets "_law_meets" (defScope s_law_meets) a.f_law_meets cdv A outer s H E) (defBody s_law_meets) (tDS K (fun cls d _ H => E cls d H) (B_law_meets a)) := by
  have tk : Takes (cxOf (L2.CX P w) P w K mg base n_law_meets "_law_meets" (defScope s_law_meets) a.f_law_meets cdv A outer s H E) (fun cls d _ H => E cls d H) := takes_of rfl rfl rfl rfl
  exact (ss_one (s_ret (e_cmp op_gt od_gt (e_bi call_len bd_len T.z_len (a_cons (e_lc (own := [("mark", 2)]) rfl sc_law_meets.nd (ct_name 2) (i_seq (e_var 0)) (blkOk_by (own := [("mark", 2)]) (N := n_law_meets) (sc := defScope s_law_meets) (by decide +kernel)) (fun _ _ _ _ _ => (pg_name (i := 2) sc_law_meets.nd rfl (by first | exact .inl rfl | exact .inr rfl))) (fun _ _ _ _ _ => (ts_one (t_cmp op_in_seq od_in (e_var 2) (e_var 1)))) (fun _ _ _ _ _ => (e_var 2))) a_nil)) e_int)))
/-- _law_atoms -/
abbrev n_law_atoms : List Str := ["book", "found", "kind", "event", "place", "names", "mark"]
theorem sc_law_atoms : FnScope n_law_atoms ["book"] (defScope s_law_atoms) := ⟨rfl, rfl, rfl, by decide +kernel, rfl, by decide +kernel, by decide +kernel⟩
def B_law_atoms (a : Adr) : TDS :=
  (dSeq (dAsg (dLstM dNil) (gNm 1)) (dSeq (dFor (dIt (dOp oDGet (dVar 0) (dC (.str "kinds")))) (gNm 2) (dFor (dIt (dOp oAdd (dLst (dCons (dC (.str "style")) (dCons (dC (.str "insert")) (dCons (dC (.str "remove")) (dCons (dC (.str "move")) dNil))))) (dOp oDGet (dVar 0) (dC (.str "names"))))) (gNm 3) (dFor (dIt (dCall (w_law_places a) (dCons (dVar 3) dNil))) (gNm 4) (dSeq (dAsg (dDGet2 (dOp oDGet (dVar 0) (dC (.str "rules"))) (dTup (dCons (dVar 2) (dCons (dVar 3) (dCons (dVar 4) dNil)))) (dLst dNil)) (gNm 5)) (dDrop (dBm isLis mExtend (dVar 1) (dCons (dLc (dIt (dOp oDGet (dVar 0) (dC (.str "marks")))) (cNm 6) (dTest (dOp (oIn false) (dVar 6) (dVar 5))) (dTup (dCons (dVar 2) (dCons (dVar 3) (dCons (dVar 4) (dCons (dVar 6) dNil))))) [6]) dNil))))))) (dRet (dFrz (dVar 1)))))
theorem D_law_atoms {P : Program} {w : World} {K : PySem.W.Frag} {mg : Str → Option Value} {base : Heap} {a : Adr} (T : Txt K mg a) (G_law_places : FnD P w K mg base 1 a.f_law_places (w_law_places a)) (cdv : Value) (A : Around) (outer : List PySem.Env) (s : Shared) (H : Hp) (E : XK) (hr : Room 1 (A.deeper (PyProof.Rows.envOfC "_law_atoms" (defScope s_law_atoms) s.heap.objs.size a.f_law_atoms cdv))) :
    PSs (cxOf (L2.CX P w) P w K mg base n_law_atoms "_law_atoms" (defScope s_law_atoms) a.f_law_atoms cdv A outer s H E) (defBody s_law_atoms) (tDS K (fun cls d _ H => E cls d H) (B_law_atoms a)) := by
  have tk : Takes (cxOf (L2.CX P w) P w K mg base n_law_atoms "_law_atoms" (defScope s_law_atoms) a.f_law_atoms cdv A outer s H E) (fun cls d _ H => E cls d H) := takes_of rfl rfl rfl rfl
  exact (ss_cons (s_set 1 sc_law_atoms.nd (e_lstM a_nil)) (ss_cons (s_for (passes_of rfl) rfl (i_seq (e_dget (huD hr) (e_var 0) e_str)) (g_name 2 sc_law_atoms.nd) (ss_one (s_for (passes_of rfl) rfl (i_seq (e_bin op_addA od_add (e_lst (a_cons e_str (a_cons e_str (a_cons e_str (a_cons e_str a_nil))))) (e_dget (huD hr) (e_var 0) e_str))) (g_name 3 sc_law_atoms.nd) (ss_one (s_for (passes_of rfl) rfl (i_seq (e_call (cal_def G_law_places (hr.mono (by decide)) tk) T.g_law_places T.F_law_places.kp (a_cons (e_var 3) a_nil))) (g_name 4 sc_law_atoms.nd) (ss_cons (s_set 5 sc_law_atoms.nd (e_dget2 (huD hr) (e_dget (huD hr) (e_var 0) e_str) (e_tup (a_cons (e_var 2) (a_cons (e_var 3) (a_cons (e_var 4) a_nil)))) (e_lst a_nil))) (ss_one (s_expr (e_bm PySem.F.plainAttrs_list PySem.F.slot_list_extend PySem.F.type_list_extend mt_extend md_extend (e_var 1) (a_cons (e_lc (own := [("mark", 6)]) rfl sc_law_atoms.nd (ct_name 6) (i_seq (e_dget (huD hr) (e_var 0) e_str)) (blkOk_by (own := [("mark", 6)]) (N := n_law_atoms) (sc := defScope s_law_atoms) (by decide +kernel)) (fun _ _ _ _ _ => (pg_name (i := 6) sc_law_atoms.nd rfl (by first | exact .inl rfl | exact .inr rfl))) (fun _ _ _ _ _ => (ts_one (t_cmp op_in_seq od_in (e_var 6) (e_var 5)))) (fun _ _ _ _ _ => (e_tup (a_cons (e_var 2) (a_cons (e_var 3) (a_cons (e_var 4) (a_cons (e_var 6) a_nil))))))) a_nil)))))))))) (ss_one (s_ret (e_frz (e_var 1))))))
theorem len_law_rule {a : Adr} {ds μ Ξ Φ} (h : w_law_rule a ds μ Ξ Φ) : ds.length = 4 := by obtain ⟨_, _, _, _, _, _, _, _, rfl, _⟩ := h; rfl
theorem read_law_rule {a : Adr} : ∀ ds μ Ξ Φ, w_law_rule a ds μ Ξ Φ → B_law_rule a { nx := fun _ μ' => Φ .non μ', rt := Φ } (startG n_law_rule ds) μ (fun _ => Ξ) := by
  rintro ds μ Ξ Φ ⟨e, k, ev, p, r, B, tab, ns, rfl, hb, hh, hm, h⟩
  unfold B_law_rule
  walk_at "d"
  refine ⟨_, dget_adr hb.hE bval.2.2.2.1, ?_⟩
  refine ⟨isDct_T hb.hR, ?_⟩
  walk_at "d"
  refine ⟨sz_of (by show 3 ≤ _; decide), ?_⟩
  walk_at "d"
  refine ⟨sz_of (by decide), _, dT_getD hb.hR, ?_⟩
  rw [hh]
  walk_at "d"
  refine ⟨_, dget_adr hb.hE bval.2.2.1, ?_⟩
  walk_at "d"
  refine lc_filter (xs := B.marks) D.str D.str (fun z => decide (z ∈ ns)) (sz_of (by omega)) trivial (fun z _ U hU => ?_) ?_
  · walk_at "d"
    refine oIn_strs rfl ?_
    walk_at "d"
    refine ite_d (fun q => ?_) fun q => ?_
    · walk_at "d"
      rw [if_pos (by simpa using q)] at hU; exact hU
    · rw [if_neg (by simpa using q)] at hU; exact hU
  · walk_at "d"
    exact bTuple_lis rfl h
theorem ok_law_rule {P : Program} {w : World} {K : PySem.W.Frag} {mg : Str → Option Value} {base : Heap} {a : Adr} (T : Txt K mg a)  : FnD P w K mg base 1 a.f_law_rule (w_law_rule a) := by
  obtain ⟨fd, F⟩ := T.F_law_rule.ex
  exact fn_D F (F.binds (ps := ["book", "kind", "event", "place"]) fun _ _ _ _ _ _ us hl => match us, hl with | [_, _, _, _], _ => rfl) sc_law_rule (fun ds μ Ξ Φ h => len_law_rule h) fun cdv A outer s H E hr => ⟨B_law_rule a, D_law_rule T  cdv A outer s H E hr, fun ds μ Ξ Φ h => read_law_rule ds μ Ξ Φ h⟩
theorem len_law_meets {a : Adr} {ds μ Ξ Φ} (h : w_law_meets a ds μ Ξ Φ) : ds.length = 2 := by obtain ⟨_, _, _, rfl, _⟩ := h; rfl
theorem any_pos {xs : List Str} {p : Str → Bool} {f : Str → D} : decide ((0 : Int) < (((xs.filter p).map f).length : Int)) = xs.any p := by
  rw [List.length_map]
  cases q : xs.any p with
  | true =>
    obtain ⟨x, hx, hp⟩ := List.any_eq_true.mp q
    have := List.length_pos_of_mem (List.mem_filter.mpr ⟨hx, hp⟩)
    exact decide_eq_true (by omega)
  | false =>
    have : xs.filter p = [] := List.filter_eq_nil_iff.mpr fun x hx w => List.any_eq_false.mp q x hx w
    rw [this]; rfl
theorem read_law_meets {a : Adr} : ∀ ds μ Ξ Φ, w_law_meets a ds μ Ξ Φ → B_law_meets a { nx := fun _ μ' => Φ .non μ', rt := Φ } (startG n_law_meets ds) μ (fun _ => Ξ) := by
  rintro ds μ Ξ Φ ⟨d, xs, ys, rfl, hd, hz, h⟩
  unfold B_law_meets
  walk_at "d"
  refine ⟨_, hd, ?_⟩
  refine lc_filter (xs := xs) D.str D.str (fun z => decide (z ∈ ys)) (sz_of (by omega)) (grd_items hd) (fun z _ U hU => ?_) ?_
  · walk_at "d"
    refine oIn_strs rfl ?_
    walk_at "d"
    refine ite_d (fun q => ?_) fun q => ?_
    · walk_at "d"
      rw [if_pos (by simpa using q)] at hU; exact hU
    · rw [if_neg (by simpa using q)] at hU; exact hU
  · walk_at "d"
    have := any_pos (xs := xs) (p := fun z => decide (z ∈ ys)) (f := D.str)
    rw [this]
    exact h
theorem ok_law_meets {P : Program} {w : World} {K : PySem.W.Frag} {mg : Str → Option Value} {base : Heap} {a : Adr} (T : Txt K mg a)  : FnD P w K mg base 1 a.f_law_meets (w_law_meets a) := by
  obtain ⟨fd, F⟩ := T.F_law_meets.ex
  exact fn_D F (F.binds (ps := ["one", "two"]) fun _ _ _ _ _ _ us hl => match us, hl with | [_, _], _ => rfl) sc_law_meets (fun ds μ Ξ Φ h => len_law_meets h) fun cdv A outer s H E hr => ⟨B_law_meets a, D_law_meets T  cdv A outer s H E hr, fun ds μ Ξ Φ h => read_law_meets ds μ Ξ Φ h⟩
theorem len_law_atoms {a : Adr} {ds μ Ξ Φ} (h : w_law_atoms a ds μ Ξ Φ) : ds.length = 1 := by obtain ⟨_, _, _, _, _, rfl, _⟩ := h; rfl
theorem read_law_atoms {a : Adr} : ∀ ds μ Ξ Φ, w_law_atoms a ds μ Ξ Φ → B_law_atoms a { nx := fun _ μ' => Φ .non μ', rt := Φ } (startG n_law_atoms ds) μ (fun _ => Ξ) := by
  rintro ds μ Ξ Φ ⟨e, r, B, tab, f, rfl, hb, hB, hf, h⟩
  unfold B_law_atoms
  obtain ⟨⟨k1, hk⟩, ⟨a1, ha⟩, ⟨m1, hm⟩, r3⟩ := hB.lens
  have kl : ∀ k, (aK B.E.attrs B.marks f k).length ≤ 128 := fun k => Nat.le_trans aK_le (by
    have : (4 + B.E.attrs.length) * (4 * B.marks.length) ≤ 8 * 16 := Nat.mul_le_mul (by omega) (by omega)
    omega)
  have el : ∀ k e, (aE B.E.attrs B.marks f k e).length ≤ 16 := fun k e => Nat.le_trans aE_le (by omega)
  walk_at "d"
  refine ⟨sz_of (by decide), fun q hq => ?_⟩
  have hE : ∀ m, updM μ q m e = some (.dK (bookEs B (.adr r))) := fun m => by rw [updM_ne (mu_ne hb.hE hq)]; exact hb.hE
  have hR : ∀ m, updM μ q m r = some (.dT tab) := fun m => by rw [updM_ne (mu_ne hb.hR hq)]; exact hb.hR
  walk_at "d"
  refine ⟨_, dget_adr (hE _) bval.1, ?_⟩
  walk_at "d"
  refine for_pre (xs := B.E.kinds) D.str (fun ks γ' μ' => ∃ o2 o3 o4 o5, γ' = [some (.adr e), some (.adr q), o2, o3, o4, o5, none] ∧ μ' = updM μ q (.lst (ks.flatMap (aK B.E.attrs B.marks f)))) ⟨none, none, none, none, rfl, rfl⟩ (fun _ _ _ _ => trivial) ?_ ?_
  · rintro ks k zs ek γ' μ' ⟨o2, o3, o4, o5, rfl, rfl⟩ U hU
    have kin : k ∈ B.E.kinds := by rw [ek]; simp
    have k3 : ks.length + 1 ≤ 3 := by have := congrArg List.length ek; rw [List.length_append, List.length_cons] at this; omega
    have ksl : (ks.flatMap (aK B.E.attrs B.marks f)).length ≤ ks.length * 128 := flat_le fun k _ => kl k
    walk_at "d"
    refine ⟨sz_of (by decide), ?_⟩
    walk_at "d"
    refine ⟨_, dget_adr (hE _) bval.2.1, ?_⟩
    refine oAdd_lst (by rw [List.length_map]; simp; exact sz_of (by omega)) ?_
    walk_at "d"
    have e9 : ([.str "style", .str "insert", .str "remove", .str "move"] : List D) ++ sL B.E.attrs = (k_WORDS ++ B.E.attrs).map D.str := by rw [List.map_append]; rfl
    rw [e9]
    have toU : ∀ γ2 μ2, (∃ o3 o4 o5, γ2 = [some (.adr e), some (.adr q), some (.str k), o3, o4, o5, none] ∧ μ2 = updM μ q (.lst (ks.flatMap (aK B.E.attrs B.marks f) ++ (k_WORDS ++ B.E.attrs).flatMap (aE B.E.attrs B.marks f k)))) → U γ2 μ2 := by
      have eK : (ks ++ [k]).flatMap (aK B.E.attrs B.marks f) = ks.flatMap (aK B.E.attrs B.marks f) ++ (k_WORDS ++ B.E.attrs).flatMap (aE B.E.attrs B.marks f k) := by rw [List.flatMap_append, List.flatMap_singleton]; rfl
      rintro γ2 μ2 ⟨o3, o4, o5, rfl, rfl⟩
      refine hU _ _ ⟨_, _, _, _, rfl, ?_⟩
      rw [eK]
    refine for_pre (xs := k_WORDS ++ B.E.attrs) D.str (fun es γ' μ' => ∃ o3 o4 o5, γ' = [some (.adr e), some (.adr q), some (.str k), o3, o4, o5, none] ∧ μ' = updM μ q (.lst (ks.flatMap (aK B.E.attrs B.marks f) ++ es.flatMap (aE B.E.attrs B.marks f k)))) ⟨o3, o4, o5, rfl, by simp⟩ (fun _ _ _ _ => trivial) ?_ toU
    rintro es ev zs2 ee γ' μ' ⟨o3, o4, o5, rfl, rfl⟩ V hV
    have evin : ev ∈ k_WORDS ++ B.E.attrs := by rw [ee]; simp
    obtain ⟨epl, _⟩ := wordsB_places hB evin
    have e8 : es.length + 1 ≤ 8 := by have := congrArg List.length ee; rw [List.length_append, List.length_append, List.length_cons] at this; simp at this; omega
    have esl : (es.flatMap (aE B.E.attrs B.marks f k)).length ≤ es.length * 16 := flat_le fun e _ => el k e
    walk_at "d"
    refine ⟨ev, rfl, ?_⟩
    rw [epl]
    walk_at "d"
    refine for_pre (xs := placesB B.E.attrs ev) D.str (fun ps γ' μ' => ∃ o4 o5, γ' = [some (.adr e), some (.adr q), some (.str k), some (.str ev), o4, o5, none] ∧ μ' = updM μ q (.lst (ks.flatMap (aK B.E.attrs B.marks f) ++ (es.flatMap (aE B.E.attrs B.marks f k) ++ ps.flatMap (aP B.marks f k ev))))) ⟨o4, o5, rfl, by simp⟩ (fun _ _ _ _ => trivial) ?_ ?_
    · rintro ps p zs3 ep γ' μ' ⟨o4, o5, rfl, rfl⟩ W hW
      have p4 : ps.length + 1 ≤ 4 := by have := congrArg List.length ep; have := places_le B.E.attrs ev; rw [List.length_append, List.length_cons] at *; omega
      have psl : (ps.flatMap (aP B.marks f k ev)).length ≤ ps.length * 4 := flat_le fun p _ => Nat.le_trans aP_le hm
      walk_at "d"
      refine ⟨_, dget_adr (hE _) bval.2.2.2.1, ?_⟩
      refine ⟨isDct_T (hR _), ?_⟩
      walk_at "d"
      refine ⟨sz_of (by show 3 ≤ _; decide), ?_⟩
      walk_at "d"
      refine ⟨sz_of (by decide), _, dT_getD (hR _), ?_⟩
      rw [hf k ev p kin]
      walk_at "d"
      refine ⟨isLis_adr updM_same, ?_⟩
      walk_at "d"
      refine ⟨_, dget_adr (hE _) bval.2.2.1, ?_⟩
      walk_at "d"
      refine lc_filter (xs := B.marks) D.str (fun m => D.tup [.str k, .str ev, .str p, .str m]) (fun m => decide (m ∈ f k ev p)) (sz_of (by omega)) trivial (fun m _ T hT => ?_) ?_
      · walk_at "d"
        refine oIn_strs rfl ?_
        walk_at "d"
        refine ite_d (fun w => ?_) fun w => ?_
        · walk_at "d"
          rw [if_pos (by simpa using w)] at hT
          exact ⟨sz_of (by show 4 ≤ _; decide), hT⟩
        · rw [if_neg (by simpa using w)] at hT; exact hT
      · walk_at "d"
        have := aP_le (ms := B.marks) (f := f) (k := k) (e := ev) (p := p)
        refine ⟨q, _, _, aP B.marks f k ev p, rfl, rfl, updM_same, rfl, rfl, sz_of (by rw [List.length_append, List.length_append]; omega), ?_⟩
        rw [updM_updM]
        refine hW _ _ ⟨_, _, rfl, ?_⟩
        rw [List.flatMap_append, List.flatMap_singleton, List.append_assoc, List.append_assoc]
    · rintro γ' μ' ⟨o4, o5, rfl, rfl⟩
      refine hV _ _ ⟨_, _, _, rfl, ?_⟩
      rw [List.flatMap_append, List.flatMap_singleton]; rfl
  · rintro γ' μ' ⟨o2, o3, o4, o5, rfl, rfl⟩
    walk_at "d"
    refine frzE_l updM_same ?_
    rw [delM_updM hq]
    exact h
theorem ok_law_atoms {P : Program} {w : World} {K : PySem.W.Frag} {mg : Str → Option Value} {base : Heap} {a : Adr} (T : Txt K mg a) (G_law_places : FnD P w K mg base 1 a.f_law_places (w_law_places a)) : FnD P w K mg base 2 a.f_law_atoms (w_law_atoms a) := by
  obtain ⟨fd, F⟩ := T.F_law_atoms.ex
  exact fn_D F (F.binds (ps := ["book"]) fun _ _ _ _ _ _ us hl => match us, hl with | [_], _ => rfl) sc_law_atoms (fun ds μ Ξ Φ h => len_law_atoms h) fun cdv A outer s H E hr => ⟨B_law_atoms a, D_law_atoms T G_law_places cdv A outer s H E hr, fun ds μ Ξ Φ h => read_law_atoms ds μ Ξ Φ h⟩

/-- _law_has_rule -/
abbrev n_law_has_rule : List Str := ["book", "event", "place"]
theorem sc_law_has_rule : FnScope n_law_has_rule ["book", "event", "place"] (defScope s_law_has_rule) := ⟨rfl, rfl, rfl, by decide +kernel, rfl, by decide +kernel, by decide +kernel⟩
def B_law_has_rule (a : Adr) : TDS :=
  (dSeq (dIf (dTest (dOp (oEq false) (dVar 1) (dC (.str "fence")))) (dRet (dOp (oEq false) (dVar 2) (dC (.str "up")))) dNext) (dSeq (dIf (dTest (dOp (oIn false) (dVar 1) (dOp oAdd (dLst (dCons (dC (.str "style")) (dCons (dC (.str "insert")) (dCons (dC (.str "remove")) (dCons (dC (.str "move")) dNil))))) (dOp oDGet (dVar 0) (dC (.str "names")))))) (dRet (dOp (oIn false) (dVar 2) (dCall (w_law_places a) (dCons (dVar 1) dNil)))) dNext) (dRet (dC (.bl false)))))
theorem D_law_has_rule {P : Program} {w : World} {K : PySem.W.Frag} {mg : Str → Option Value} {base : Heap} {a : Adr} (T : Txt K mg a) (G_law_places : FnD P w K mg base 1 a.f_law_places (w_law_places a)) (cdv : Value) (A : Around) (outer : List PySem.Env) (s : Shared) (H : Hp) (E : XK) (hr : Room 1 (A.deeper (PyProof.Rows.envOfC "_law_has_rule" (defScope s_law_has_rule) s.heap.objs.size a.f_law_has_rule cdv))) :
    PSs (cxOf (L2.CX P w) P w K mg base n_law_has_rule "_law_has_rule" (defScope s_law_has_rule) a.f_law_has_rule cdv A outer s H E) (defBody s_law_has_rule) (tDS K (fun cls d _ H => E cls d H) (B_law_has_rule a)) := by
  have tk : Takes (cxOf (L2.CX P w) P w K mg base n_law_has_rule "_law_has_rule" (defScope s_law_has_rule) a.f_law_has_rule cdv A outer s H E) (fun cls d _ H => E cls d H) := takes_of rfl rfl rfl rfl
  exact (ss_cons (s_if (t_cmp (op_eqA hr) od_eq (e_var 1) e_str) (ss_one (s_ret (e_cmp (op_eqA hr) od_eq (e_var 2) e_str))) ss_nil) (ss_cons (s_if (t_cmp op_in_seq od_in (e_var 1) (e_bin op_addA od_add (e_lst (a_cons e_str (a_cons e_str (a_cons e_str (a_cons e_str a_nil))))) (e_dget (huD hr) (e_var 0) e_str))) (ss_one (s_ret (e_cmp op_in_seq od_in (e_var 2) (e_call (cal_def G_law_places (hr.mono (by decide)) tk) T.g_law_places T.F_law_places.kp (a_cons (e_var 1) a_nil))))) ss_nil) (ss_one (s_ret e_bl))))
/-- _law_read -/
abbrev n_law_read : List Str := ["made", "kind", "event", "place"]
theorem sc_law_read : FnScope n_law_read ["made", "kind", "event", "place"] (defScope s_law_read) := ⟨rfl, rfl, rfl, by decide +kernel, rfl, by decide +kernel, by decide +kernel⟩
def B_law_read (a : Adr) : TDS :=
  (dTry (exM a.C_BadBook) (dRet (dFgt (dBi (bOwnList a.C_Marks "names") (dCons (dOwnIx a.C_Book (w_Book_d_getitem a) (dVar 0) (dTup (dCons (dVar 1) (dCons (dVar 2) (dCons (dVar 3) dNil))))) dNil)))) (dRet (dFgt (dC .non))))
theorem D_law_read {P : Program} {w : World} {K : PySem.W.Frag} {mg : Str → Option Value} {base : Heap} {a : Adr} (T : Txt K mg a) (G_Marks_d_len : FnD P w K mg base 1 a.f_Marks_d_len (w_Marks_d_len a)) (G_Book_d_getitem : FnD P w K mg base 3 a.f_Book_d_getitem (w_Book_d_getitem a)) (GI_Marks : FnR P w K mg base (L2.CX P w) 1 a.f_Marks_d_iter (spIterF K a.C_Marks "names")) (GL_Marks : FnR P w K mg base (L2.CX P w) 1 a.f_Marks_d_len (spLenF K a.C_Marks "names")) (cdv : Value) (A : Around) (outer : List PySem.Env) (s : Shared) (H : Hp) (E : XK) (hr : Room 4 (A.deeper (PyProof.Rows.envOfC "_law_read" (defScope s_law_read) s.heap.objs.size a.f_law_read cdv))) :
    PSs (cxOf (L2.CX P w) P w K mg base n_law_read "_law_read" (defScope s_law_read) a.f_law_read cdv A outer s H E) (defBody s_law_read) (tDS K (fun cls d _ H => E cls d H) (B_law_read a)) := by
  have tk : Takes (cxOf (L2.CX P w) P w K mg base n_law_read "_law_read" (defScope s_law_read) a.f_law_read cdv A outer s H E) (fun cls d _ H => E cls d H) := takes_of rfl rfl rfl rfl
  exact (ss_one (s_try rfl rfl ⟨rfl, by decide, .inl T.g_BadBook⟩ tk (exM_ok T.em_BadBook) (fun W' pn xe tk' => (ss_one (s_ret (e_fgt (e_bt (call_ownList (n := 1) T.m_Marks_d_iter T.m_Marks_d_len GI_Marks GL_Marks rfl (hr.mono (by decide))) bd_ownList T.z_list (a_cons (e_ownIx T.m_Book_d_getitem T.fi_Book_d_getitem G_Book_d_getitem (hr.mono (by decide)) tk' (e_var 0) (e_tup (a_cons (e_var 1) (a_cons (e_var 2) (a_cons (e_var 3) a_nil))))) a_nil)))))) (fun _ _ => (ss_one (s_ret (e_fgt e_non))))))
/-- _law_is_set -/
abbrev n_law_is_set : List Str := ["made", "kind", "event", "place", "marks", "given", "mark"]
theorem sc_law_is_set : FnScope n_law_is_set ["made", "kind", "event", "place", "marks"] (defScope s_law_is_set) := ⟨rfl, rfl, rfl, by decide +kernel, rfl, by decide +kernel, by decide +kernel⟩
def B_law_is_set (a : Adr) : TDS :=
  (dSeq (dAsg (dCall (wMake a.C_Marks (w_Marks_d_init a)) dNil) (gNm 5)) (dSeq (dFor (dIt (dVar 4)) (gNm 6) (dAug 5 (dCall (wMake a.C_Marks (w_Marks_d_init a)) (dCons (dVar 6) dNil)) (oOwnI a.C_Marks (w_Marks_d_ior a)))) (dSeq (dTry (exM a.C_BadBook) (dAsg (dVar 5) (gOwn a.C_Book (w_Book_d_setitem a) (dVar 0) (dTup (dCons (dVar 1) (dCons (dVar 2) (dCons (dVar 3) dNil)))))) (dRet (dFgt (dC (.bl false))))) (dRet (dFgt (dC (.bl true)))))))
theorem D_law_is_set {P : Program} {w : World} {K : PySem.W.Frag} {mg : Str → Option Value} {base : Heap} {a : Adr} (T : Txt K mg a) (G_Marks_d_init : FnD P w K mg base 1 a.f_Marks_d_init (w_Marks_d_init a)) (G_Marks_d_ior : FnD P w K mg base 1 a.f_Marks_d_ior (w_Marks_d_ior a)) (G_Book_d_setitem : FnD P w K mg base 3 a.f_Book_d_setitem (w_Book_d_setitem a)) (cdv : Value) (A : Around) (outer : List PySem.Env) (s : Shared) (H : Hp) (E : XK) (hr : Room 3 (A.deeper (PyProof.Rows.envOfC "_law_is_set" (defScope s_law_is_set) s.heap.objs.size a.f_law_is_set cdv))) :
    PSs (cxOf (L2.CX P w) P w K mg base n_law_is_set "_law_is_set" (defScope s_law_is_set) a.f_law_is_set cdv A outer s H E) (defBody s_law_is_set) (tDS K (fun cls d _ H => E cls d H) (B_law_is_set a)) := by
  have tk : Takes (cxOf (L2.CX P w) P w K mg base n_law_is_set "_law_is_set" (defScope s_law_is_set) a.f_law_is_set cdv A outer s H E) (fun cls d _ H => E cls d H) := takes_of rfl rfl rfl rfl
  exact (ss_cons (s_set 5 sc_law_is_set.nd (e_call0 (cal_class T.mk_Marks G_Marks_d_init (hr.mono (by decide)) tk) T.g_Marks T.mk_Marks.kp)) (ss_cons (s_for (passes_of rfl) rfl (i_seq (e_var 4)) (g_name 6 sc_law_is_set.nd) (ss_one (s_aug 5 sc_law_is_set.nd (in_ownI T.m_Marks_d_ior T.sf_Marks G_Marks_d_ior (hr.mono (by decide))) od_ownI (e_call (cal_class T.mk_Marks G_Marks_d_init (hr.mono (by decide)) tk) T.g_Marks T.mk_Marks.kp (a_cons (e_var 6) a_nil))))) (ss_cons (s_try rfl rfl ⟨rfl, by decide, .inl T.g_BadBook⟩ tk (exM_ok T.em_BadBook) (fun W' pn xe tk' => (ss_one (s_asg (e_var 5) (g_own T.m_Book_d_setitem T.ns_Book G_Book_d_setitem (hr.mono (by decide)) tk' (e_var 0) (e_tup (a_cons (e_var 1) (a_cons (e_var 2) (a_cons (e_var 3) a_nil)))))))) (fun _ _ => (ss_one (s_ret (e_fgt e_bl))))) (ss_one (s_ret (e_fgt e_bl))))))
theorem len_law_has_rule {a : Adr} {ds μ Ξ Φ} (h : w_law_has_rule a ds μ Ξ Φ) : ds.length = 3 := by obtain ⟨_, _, _, _, _, rfl, _⟩ := h; rfl
theorem read_law_has_rule {a : Adr} : ∀ ds μ Ξ Φ, w_law_has_rule a ds μ Ξ Φ → B_law_has_rule a { nx := fun _ μ' => Φ .non μ', rt := Φ } (startG n_law_has_rule ds) μ (fun _ => Ξ) := by
  rintro ds μ Ξ Φ ⟨e, ev, p, B, rd, rfl, he, hB, h⟩
  unfold B_law_has_rule
  obtain ⟨⟨k1, hk⟩, ⟨a1, ha⟩, ⟨m1, hm⟩, r3⟩ := hB.lens
  walk_at "d"
  refine ite_d (fun q => ?_) fun q => ?_
  · walk_at "d"
    have : decide (p ∈ placesB B.E.attrs ev) = decide (p = "up") := by unfold placesB; rw [if_pos q]; simp
    rw [this] at h
    exact h
  · walk_at "d"
    refine ⟨sz_of (by decide), ?_⟩
    walk_at "d"
    refine ⟨_, dget_adr he bval.2.1, ?_⟩
    refine oAdd_lst (by rw [List.length_map]; simp; exact sz_of (by omega)) ?_
    have e9 : ([.str "style", .str "insert", .str "remove", .str "move"] : List D) ++ sL B.E.attrs = (k_WORDS ++ B.E.attrs).map D.str := by rw [List.map_append]; rfl
    rw [e9]
    refine oIn_strs (ys := k_WORDS ++ B.E.attrs) rfl ?_
    walk_at "d"
    refine ite_d (fun q2 => ?_) fun q2 => ?_
    · obtain ⟨epl, _⟩ := wordsB_places hB q2
      walk_at "d"
      refine ⟨ev, rfl, ?_⟩
      rw [epl]
      exact oIn_strs rfl h
    · walk_at "d"
      have n1 : ev ∉ k_WORDS := fun w => q2 (List.mem_append_left _ w)
      have n2 : ev ∉ B.E.attrs := fun w => q2 (List.mem_append_right _ w)
      have n3 : ev ≠ "remove" := fun w => n1 (by rw [w]; decide +kernel)
      have : decide (p ∈ placesB B.E.attrs ev) = false := by unfold placesB; rw [if_neg q, if_neg n3, if_neg n1, if_neg n2]; simp
      rw [this] at h
      exact h
theorem ok_law_has_rule {P : Program} {w : World} {K : PySem.W.Frag} {mg : Str → Option Value} {base : Heap} {a : Adr} (T : Txt K mg a) (G_law_places : FnD P w K mg base 1 a.f_law_places (w_law_places a)) : FnD P w K mg base 2 a.f_law_has_rule (w_law_has_rule a) := by
  obtain ⟨fd, F⟩ := T.F_law_has_rule.ex
  exact fn_D F (F.binds (ps := ["book", "event", "place"]) fun _ _ _ _ _ _ us hl => match us, hl with | [_, _, _], _ => rfl) sc_law_has_rule (fun ds μ Ξ Φ h => len_law_has_rule h) fun cdv A outer s H E hr => ⟨B_law_has_rule a, D_law_has_rule T G_law_places cdv A outer s H E hr, fun ds μ Ξ Φ h => read_law_has_rule ds μ Ξ Φ h⟩
theorem MadeAt.keep {a : Adr} {μ : Mu} {b r : Addr} {B : Bk} {tab : Rt} {q : Addr} {m : MO} (h : MadeAt a μ b r B tab) (hq : μ q = none) : MadeAt a (updM μ q m) b r B tab := ⟨by rw [updM_ne (mu_ne h.hB hq)]; exact h.hB, by rw [updM_ne (mu_ne h.hR hq)]; exact h.hR⟩
theorem MadeAt.tab {a : Adr} {μ : Mu} {b r : Addr} {B : Bk} {tab : Rt} (h : MadeAt a μ b r B tab) : dTD μ (.adr r) = some tab := by show dTM (μ r) = _; rw [h.hR]; rfl
theorem BkAt.keep {μ : Mu} {e r : Addr} {B : Bk} {tab : Rt} {q : Addr} {m : MO} (h : BkAt μ e r B tab) (hq : μ q = none) : BkAt (updM μ q m) e r B tab := ⟨by rw [updM_ne (mu_ne h.hE hq)]; exact h.hE, by rw [updM_ne (mu_ne h.hR hq)]; exact h.hR⟩
theorem len_law_read {a : Adr} {ds μ Ξ Φ} (h : w_law_read a ds μ Ξ Φ) : ds.length = 4 := by obtain ⟨_, _, _, _, _, _, _, _, rfl, _⟩ := h; rfl
theorem read_law_read {a : Adr} : ∀ ds μ Ξ Φ, w_law_read a ds μ Ξ Φ → B_law_read a { nx := fun _ μ' => Φ .non μ', rt := Φ } (startG n_law_read ds) μ (fun _ => Ξ) := by
  rintro ds μ Ξ Φ ⟨b, r2, B, tab2, k, ev, p, ns, rfl, hm, hh, hz, h1, h2⟩
  unfold B_law_read
  walk_at "d"
  refine ⟨sz_of (by show 3 ≤ _; decide), ?_⟩
  refine ⟨⟨_, ins_adr hm.hB⟩, ?_⟩
  refine ⟨.adr b, B, .adr r2, tab2, k, ev, p, ns, rfl, ins_adr hm.hB, hm.tab, hh, hz, fun w q ys hq hS => ?_, fun w => ?_⟩
  · walk_at "d"
    have := hS.len (ys := ns) (fun z h => h)
    refine list_Marks updM_same (by omega) ?_
    refine ⟨μ, fun x m hx => by rw [updM_ne (mu_ne hx hq)]; exact hx, h1 w ys hS⟩
  · refine ⟨true, ⟨rfl, rfl⟩, fun _ => ?_, fun z => by cases z⟩
    walk_at "d"
    exact ⟨μ, fun x m hx => hx, h2 w⟩
theorem ok_law_read {P : Program} {w : World} {K : PySem.W.Frag} {mg : Str → Option Value} {base : Heap} {a : Adr} (T : Txt K mg a) (G_Marks_d_len : FnD P w K mg base 1 a.f_Marks_d_len (w_Marks_d_len a)) (G_Book_d_getitem : FnD P w K mg base 3 a.f_Book_d_getitem (w_Book_d_getitem a)) (GI_Marks : FnR P w K mg base (L2.CX P w) 1 a.f_Marks_d_iter (spIterF K a.C_Marks "names")) (GL_Marks : FnR P w K mg base (L2.CX P w) 1 a.f_Marks_d_len (spLenF K a.C_Marks "names")) : FnD P w K mg base 5 a.f_law_read (w_law_read a) := by
  obtain ⟨fd, F⟩ := T.F_law_read.ex
  exact fn_D F (F.binds (ps := ["made", "kind", "event", "place"]) fun _ _ _ _ _ _ us hl => match us, hl with | [_, _, _, _], _ => rfl) sc_law_read (fun ds μ Ξ Φ h => len_law_read h) fun cdv A outer s H E hr => ⟨B_law_read a, D_law_read T G_Marks_d_len G_Book_d_getitem GI_Marks GL_Marks cdv A outer s H E hr, fun ds μ Ξ Φ h => read_law_read ds μ Ξ Φ h⟩
theorem len_law_is_set {a : Adr} {ds μ Ξ Φ} (h : w_law_is_set a ds μ Ξ Φ) : ds.length = 5 := by obtain ⟨_, _, _, _, _, _, _, _, rfl, _⟩ := h; rfl
theorem all_set {ys ms : List Str} {p : Str → Bool} (h : SetOf ys (· ∈ ms)) : ys.all p = ms.all p := by
  cases q : ms.all p with
  | true => exact List.all_eq_true.mpr fun z hz => List.all_eq_true.mp q z ((h.2 z).mp hz)
  | false =>
    refine Bool.eq_false_iff.mpr fun w => ?_
    obtain ⟨z, hz, e⟩ := List.all_eq_false.mp q
    exact e (List.all_eq_true.mp w z ((h.2 z).mpr hz))
theorem read_law_is_set {a : Adr} : ∀ ds μ Ξ Φ, w_law_is_set a ds μ Ξ Φ → B_law_is_set a { nx := fun _ μ' => Φ .non μ', rt := Φ } (startG n_law_is_set ds) μ (fun _ => Ξ) := by
  rintro ds μ Ξ Φ ⟨b, r2, B, tab2, k, ev, p, ms, rfl, hm, r3, hz, hl, h1, h2⟩
  unfold B_law_is_set
  walk_at "d"
  show wMake a.C_Marks (w_Marks_d_init a) (sL []) _ _ _
  refine make_Marks (by simp) fun g y0 hg hS0 => ?_
  have hm0 := hm
  have hm := hm.keep (m := MkM a.C_Marks y0) hg
  walk_at "d"
  refine for_pre (xs := ms) D.str (fun zs γ' μ' => ∃ o6 ys, γ' = [some (.adr b), some (.str k), some (.str ev), some (.str p), some (.lst (sL ms)), some (.adr g), o6] ∧ Ext μ μ' ∧ μ' g = some (MkM a.C_Marks ys) ∧ SetOf ys (· ∈ zs)) ⟨none, y0, rfl, fun x m hx => by rw [updM_ne (mu_ne hx hg)]; exact hx, updM_same, hS0⟩ (fun _ _ _ _ => trivial) ?_ ?_
  · rintro zs z ws ez γ' μ' ⟨o6, ys, rfl, hx, h_g, hS⟩ U hU
    have zl : zs.length + 1 ≤ ms.length := by have := congrArg List.length ez; rw [List.length_append, List.length_cons] at this; omega
    have yl := hS.len (ys := zs) (fun z h => h)
    walk_at "d"
    show wMake a.C_Marks (w_Marks_d_init a) (sL [z]) _ _ _
    refine make_Marks (by simp) fun q y2 hq hS2 => ?_
    have h_g2 : updM μ' q (MkM a.C_Marks y2) g = some (MkM a.C_Marks ys) := by rw [updM_ne (mu_ne h_g hq)]; exact h_g
    have y2l := hS2.len (ys := [z]) (fun z h => h)
    have y2l : y2.length ≤ 1 := y2l
    refine ior_Marks h_g2 updM_same hS.1 hS2.1 (by omega) fun y3 hS3 => ?_
    refine hU _ _ ⟨_, y3, rfl, fun x m hxm => ?_, updM_same, hS3.to fun w => (or_congr (hS.2 w) (hS2.2 w)).trans List.mem_append.symm⟩
    rw [updM_ne (mu_ne hxm hg), updM_ne (mu_ne (hx x m hxm) hq)]; exact hx x m hxm
  · rintro γ' μ' ⟨o6, ys, rfl, hx, h_g, hS⟩
    have yl := hS.len (ys := ms) (fun z h => h)
    have h_b := hx _ _ hm0.hB
    have h_r := hx _ _ hm0.hR
    walk_at "d"
    refine ⟨sz_of (by show 3 ≤ _; decide), ?_⟩
    refine ⟨⟨_, ins_adr h_b⟩, ?_⟩
    refine ⟨.adr b, B, r2, tab2, k, ev, p, g, ys, rfl, ins_adr h_b, r3, h_r, by omega, h_g, fun w => ?_, fun w => ?_⟩
    · rw [all_set hS] at w
      walk_at "d"
      refine ⟨_, fun x m hxm => ?_, h1 w ys hS⟩
      by_cases q : x = r2
      · subst q; rw [updM_same] at hxm ⊢; exact hxm
      · rw [updM_ne q] at hxm ⊢; exact hx x m hxm
    · rw [all_set hS] at w
      refine ⟨true, ⟨rfl, rfl⟩, fun _ => ?_, fun z => by cases z⟩
      walk_at "d"
      exact ⟨μ, hx, h2 w⟩
theorem ok_law_is_set {P : Program} {w : World} {K : PySem.W.Frag} {mg : Str → Option Value} {base : Heap} {a : Adr} (T : Txt K mg a) (G_Marks_d_init : FnD P w K mg base 1 a.f_Marks_d_init (w_Marks_d_init a)) (G_Marks_d_ior : FnD P w K mg base 1 a.f_Marks_d_ior (w_Marks_d_ior a)) (G_Book_d_setitem : FnD P w K mg base 3 a.f_Book_d_setitem (w_Book_d_setitem a)) : FnD P w K mg base 4 a.f_law_is_set (w_law_is_set a) := by
  obtain ⟨fd, F⟩ := T.F_law_is_set.ex
  exact fn_D F (F.binds (ps := ["made", "kind", "event", "place", "marks"]) fun _ _ _ _ _ _ us hl => match us, hl with | [_, _, _, _, _], _ => rfl) sc_law_is_set (fun ds μ Ξ Φ h => len_law_is_set h) fun cdv A outer s H E hr => ⟨B_law_is_set a, D_law_is_set T G_Marks_d_init G_Marks_d_ior G_Book_d_setitem cdv A outer s H E hr, fun ds μ Ξ Φ h => read_law_is_set ds μ Ξ Φ h⟩

/-- _law_told_sets_stay -/
abbrev n_law_told_sets_stay : List Str := ["book", "made", "k", "told", "kind"]
theorem sc_law_told_sets_stay : FnScope n_law_told_sets_stay ["book", "made"] (defScope s_law_told_sets_stay) := ⟨rfl, rfl, rfl, by decide +kernel, rfl, by decide +kernel, by decide +kernel⟩
def B_law_told_sets_stay (a : Adr) : TDS :=
  (dSeq (dFor (dRng1 (dCons (dBi bLen (dCons (dOp oDGet (dVar 0) (dC (.str "passes"))) dNil)) dNil)) (gNm 2) (dSeq (dAsg (dMeth a.C_Book "enters" (w_Book_enters a) (dVar 1) (dCons (dVar 2) dNil)) (gNm 3)) (dSeq (dAug 3 (dCall (wMake a.C_Marks (w_Marks_d_init a)) (dCons (dC (.str "zz")) dNil)) (oOwnI a.C_Marks (w_Marks_d_ior a))) (dSeq (dAsg (dMeth a.C_Book "through" (w_Book_through a) (dVar 1) (dCons (dVar 2) dNil)) (gNm 3)) (dSeq (dAug 3 (dCall (wMake a.C_Marks (w_Marks_d_init a)) (dCons (dC (.str "zz")) dNil)) (oOwnI a.C_Marks (w_Marks_d_ior a))) (dSeq (dIf (dTest (dOp (oEq true) (dBi (bOwnList a.C_Marks "names") (dCons (dMeth a.C_Book "enters" (w_Book_enters a) (dVar 1) (dCons (dVar 2) dNil)) dNil)) (dCall (w_law_alphabet a) (dCons (dOp oIx (dOp oDGet (dVar 0) (dC (.str "enters"))) (dVar 2)) dNil)))) (dRet (dFgt (dC (.bl false)))) dNext) (dIf (dTest (dOp (oEq true) (dBi (bOwnList a.C_Marks "names") (dCons (dMeth a.C_Book "through" (w_Book_through a) (dVar 1) (dCons (dVar 2) dNil)) dNil)) (dCall (w_law_alphabet a) (dCons (dOp oIx (dOp oDGet (dVar 0) (dC (.str "through"))) (dVar 2)) dNil)))) (dRet (dFgt (dC (.bl false)))) dNext))))))) (dSeq (dFor (dIt (dOp oDGet (dVar 0) (dC (.str "kinds")))) (gNm 4) (dSeq (dAsg (dOwnIx a.C_Book (w_Book_d_getitem a) (dVar 1) (dTup (dCons (dVar 4) (dCons (dC (.str "fence")) (dCons (dC (.str "up")) dNil))))) (gNm 3)) (dSeq (dAug 3 (dCall (wMake a.C_Marks (w_Marks_d_init a)) (dCons (dC (.str "zz")) dNil)) (oOwnI a.C_Marks (w_Marks_d_ior a))) (dIf (dTest (dOp (oEq true) (dBi (bOwnList a.C_Marks "names") (dCons (dOwnIx a.C_Book (w_Book_d_getitem a) (dVar 1) (dTup (dCons (dVar 4) (dCons (dC (.str "fence")) (dCons (dC (.str "up")) dNil))))) dNil)) (dCall (w_law_alphabet a) (dCons (dCall (w_law_rule a) (dCons (dVar 0) (dCons (dVar 4) (dCons (dC (.str "fence")) (dCons (dC (.str "up")) dNil))))) dNil)))) (dRet (dFgt (dC (.bl false)))) dNext)))) (dRet (dFgt (dC (.bl true))))))
theorem D_law_told_sets_stay {P : Program} {w : World} {K : PySem.W.Frag} {mg : Str → Option Value} {base : Heap} {a : Adr} (T : Txt K mg a) (G_Book_enters : FnD P w K mg base 3 a.f_Book_enters (w_Book_enters a)) (G_Marks_d_init : FnD P w K mg base 1 a.f_Marks_d_init (w_Marks_d_init a)) (G_Marks_d_ior : FnD P w K mg base 1 a.f_Marks_d_ior (w_Marks_d_ior a)) (G_Book_through : FnD P w K mg base 3 a.f_Book_through (w_Book_through a)) (G_Marks_d_len : FnD P w K mg base 1 a.f_Marks_d_len (w_Marks_d_len a)) (G_law_alphabet : FnD P w K mg base 2 a.f_law_alphabet (w_law_alphabet a)) (G_Book_d_getitem : FnD P w K mg base 3 a.f_Book_d_getitem (w_Book_d_getitem a)) (G_law_rule : FnD P w K mg base 1 a.f_law_rule (w_law_rule a)) (GI_Marks : FnR P w K mg base (L2.CX P w) 1 a.f_Marks_d_iter (spIterF K a.C_Marks "names")) (GL_Marks : FnR P w K mg base (L2.CX P w) 1 a.f_Marks_d_len (spLenF K a.C_Marks "names")) (cdv : Value) (A : Around) (outer : List PySem.Env) (s : Shared) (H : Hp) (E : XK) (hr : Room 4 (A.deeper (PyProof.Rows.envOfC "_law_told_sets_stay" (defScope s_law_told_sets_stay) s.heap.objs.size a.f_law_told_sets_stay cdv))) :
    PSs (cxOf (L2.CX P w) P w K mg base n_law_told_sets_stay "_law_told_sets_stay" (defScope s_law_told_sets_stay) a.f_law_told_sets_stay cdv A outer s H E) (defBody s_law_told_sets_stay) (tDS K (fun cls d _ H => E cls d H) (B_law_told_sets_stay a)) := by
  have tk : Takes (cxOf (L2.CX P w) P w K mg base n_law_told_sets_stay "_law_told_sets_stay" (defScope s_law_told_sets_stay) a.f_law_told_sets_stay cdv A outer s H E) (fun cls d _ H => E cls d H) := takes_of rfl rfl rfl rfl
  exact (ss_cons (s_for (passes_of rfl) rfl (i_range1 T.z_range (a_cons (e_bi call_len bd_len T.z_len (a_cons (e_dget (huD hr) (e_var 0) e_str) a_nil)) a_nil)) (g_name 2 sc_law_told_sets_stay.nd) (ss_cons (s_set 3 sc_law_told_sets_stay.nd (e_meth (cal_def G_Book_enters (hr.mono (by decide)) tk) T.o_Book.cl T.mt_Book_enters (e_var 1) (a_cons (e_var 2) a_nil))) (ss_cons (s_aug 3 sc_law_told_sets_stay.nd (in_ownI T.m_Marks_d_ior T.sf_Marks G_Marks_d_ior (hr.mono (by decide))) od_ownI (e_call (cal_class T.mk_Marks G_Marks_d_init (hr.mono (by decide)) tk) T.g_Marks T.mk_Marks.kp (a_cons e_str a_nil))) (ss_cons (s_set 3 sc_law_told_sets_stay.nd (e_meth (cal_def G_Book_through (hr.mono (by decide)) tk) T.o_Book.cl T.mt_Book_through (e_var 1) (a_cons (e_var 2) a_nil))) (ss_cons (s_aug 3 sc_law_told_sets_stay.nd (in_ownI T.m_Marks_d_ior T.sf_Marks G_Marks_d_ior (hr.mono (by decide))) od_ownI (e_call (cal_class T.mk_Marks G_Marks_d_init (hr.mono (by decide)) tk) T.g_Marks T.mk_Marks.kp (a_cons e_str a_nil))) (ss_cons (s_if (t_cmp (op_neA hr) od_ne (e_bt (call_ownList (n := 1) T.m_Marks_d_iter T.m_Marks_d_len GI_Marks GL_Marks rfl (hr.mono (by decide))) bd_ownList T.z_list (a_cons (e_meth (cal_def G_Book_enters (hr.mono (by decide)) tk) T.o_Book.cl T.mt_Book_enters (e_var 1) (a_cons (e_var 2) a_nil)) a_nil)) (e_call (cal_def G_law_alphabet (hr.mono (by decide)) tk) T.g_law_alphabet T.F_law_alphabet.kp (a_cons (e_ix (e_dget (huD hr) (e_var 0) e_str) (e_var 2)) a_nil))) (ss_one (s_ret (e_fgt e_bl))) ss_nil) (ss_one (s_if (t_cmp (op_neA hr) od_ne (e_bt (call_ownList (n := 1) T.m_Marks_d_iter T.m_Marks_d_len GI_Marks GL_Marks rfl (hr.mono (by decide))) bd_ownList T.z_list (a_cons (e_meth (cal_def G_Book_through (hr.mono (by decide)) tk) T.o_Book.cl T.mt_Book_through (e_var 1) (a_cons (e_var 2) a_nil)) a_nil)) (e_call (cal_def G_law_alphabet (hr.mono (by decide)) tk) T.g_law_alphabet T.F_law_alphabet.kp (a_cons (e_ix (e_dget (huD hr) (e_var 0) e_str) (e_var 2)) a_nil))) (ss_one (s_ret (e_fgt e_bl))) ss_nil)))))))) (ss_cons (s_for (passes_of rfl) rfl (i_seq (e_dget (huD hr) (e_var 0) e_str)) (g_name 4 sc_law_told_sets_stay.nd) (ss_cons (s_set 3 sc_law_told_sets_stay.nd (e_ownIx T.m_Book_d_getitem T.fi_Book_d_getitem G_Book_d_getitem (hr.mono (by decide)) tk (e_var 1) (e_tup (a_cons (e_var 4) (a_cons e_str (a_cons e_str a_nil)))))) (ss_cons (s_aug 3 sc_law_told_sets_stay.nd (in_ownI T.m_Marks_d_ior T.sf_Marks G_Marks_d_ior (hr.mono (by decide))) od_ownI (e_call (cal_class T.mk_Marks G_Marks_d_init (hr.mono (by decide)) tk) T.g_Marks T.mk_Marks.kp (a_cons e_str a_nil))) (ss_one (s_if (t_cmp (op_neA hr) od_ne (e_bt (call_ownList (n := 1) T.m_Marks_d_iter T.m_Marks_d_len GI_Marks GL_Marks rfl (hr.mono (by decide))) bd_ownList T.z_list (a_cons (e_ownIx T.m_Book_d_getitem T.fi_Book_d_getitem G_Book_d_getitem (hr.mono (by decide)) tk (e_var 1) (e_tup (a_cons (e_var 4) (a_cons e_str (a_cons e_str a_nil))))) a_nil)) (e_call (cal_def G_law_alphabet (hr.mono (by decide)) tk) T.g_law_alphabet T.F_law_alphabet.kp (a_cons (e_call (cal_def G_law_rule (hr.mono (by decide)) tk) T.g_law_rule T.F_law_rule.kp (a_cons (e_var 0) (a_cons (e_var 4) (a_cons e_str (a_cons e_str a_nil))))) a_nil))) (ss_one (s_ret (e_fgt e_bl))) ss_nil))))) (ss_one (s_ret (e_fgt e_bl)))))
theorem mark_ok : ∀ z ∈ markMenu, PyData.strOk z = true := by decide +kernel
theorem Ext.new {μ μ' : Mu} (h : Ext μ μ') {q : Addr} {m : MO} (hq : μ' q = none) : Ext μ (updM μ' q m) := fun x n hx => by rw [updM_ne (mu_ne (h x n hx) hq)]; exact h x n hx
theorem Ext.old {μ μ' : Mu} (h : Ext μ μ') {q : Addr} {m : MO} (hq : μ q = none) : Ext μ (updM μ' q m) := fun x n hx => by rw [updM_ne (mu_ne hx hq)]; exact h x n hx
theorem Ext.free {μ μ' : Mu} (h : Ext μ μ') {q : Addr} (hq : μ' q = none) : μ q = none := by
  cases e : μ q with
  | none => rfl
  | some m => rw [h q m e] at hq; cases hq
theorem zz_grow {a : Adr} {μ μ' : Mu} {q : Addr} {ys : List Str} {Ξ : XF} {Φ : KD} (hx : Ext μ μ') (hq : μ q = none) (hm : μ' q = some (MkM a.C_Marks ys)) (hs : Srt ys) (hz : ys.length < 32) (h : ∀ μ2, Ext μ μ2 → Φ (.adr q) μ2) :
    wMake a.C_Marks (w_Marks_d_init a) (sL ["zz"]) μ' Ξ fun y μ1 => oOwnI a.C_Marks (w_Marks_d_ior a) (.adr q) y μ1 Φ := by
  refine make_Marks (by simp) fun q2 y2 hq2 hS2 => ?_
  have y2l := hS2.len (ys := ["zz"]) (fun z h => h)
  have y2l : y2.length ≤ 1 := y2l
  refine ior_Marks (by rw [updM_ne (mu_ne hm hq2)]; exact hm) updM_same hs hS2.1 (by omega) fun y3 hS3 => ?_
  exact h _ ((hx.new hq2).old hq)
theorem len_law_told_sets_stay {a : Adr} {ds μ Ξ Φ} (h : w_law_told_sets_stay a ds μ Ξ Φ) : ds.length = 2 := by obtain ⟨_, _, _, _, _, _, _, rfl, _⟩ := h; rfl
theorem read_law_told_sets_stay {a : Adr} : ∀ ds μ Ξ Φ, w_law_told_sets_stay a ds μ Ξ Φ → B_law_told_sets_stay a { nx := fun _ μ' => Φ .non μ', rt := Φ } (startG n_law_told_sets_stay ds) μ (fun _ => Ξ) := by
  rintro ds μ Ξ Φ ⟨e, r, b, r2, B, tab, tab2, rfl, hb, hm, hl, hr, hB, h⟩
  unfold B_law_told_sets_stay
  obtain ⟨⟨k1, hk⟩, ⟨a1, ha⟩, ⟨m1, hm4⟩, r3⟩ := hB.lens
  walk_at "d"
  refine ⟨_, dget_adr hb.hE bval.2.2.2.2.2.2.1, ?_⟩
  walk_at "d"
  have cl : (lstL B.E.passes).length = B.reads.length := by unfold lstL; rw [List.length_map, hB.good.len]
  rw [cl]
  refine ⟨B.reads.length, rfl, by omega, by omega, ?_⟩
  refine for_pre (xs := List.range ((B.reads.length : Nat) : Int).toNat) (fun i : Nat => D.int (0 + i)) (fun _ γ' μ' => ∃ o2 o3, γ' = [some (.adr e), some (.adr b), o2, o3, none] ∧ Ext μ μ') ⟨none, none, rfl, fun _ _ h => h⟩ (fun _ _ _ _ => trivial) ?_ ?_
  · rintro ys i zs ei γ' μ' ⟨o2, o3, rfl, hx⟩ U hU
    have il : i < B.reads.length := by have : i ∈ List.range ((B.reads.length : Nat) : Int).toNat := by rw [ei]; simp
                                       have := List.mem_range.mp this; omega
    have g : B.reads[i]? = some B.reads[i] := List.getElem?_eq_getElem il
    generalize B.reads[i] = pr at g
    have pin : pr ∈ B.reads := List.mem_of_getElem? g
    obtain ⟨nd1, nd2⟩ := hB.good.nd pr pin
    have sb := hB.good.sub pr pin
    have l1 : pr.1.length ≤ 4 := Nat.le_trans (nd_le2 nd1 fun z hz => sb z (.inl hz)) hm4
    have l2 : pr.2.length ≤ 4 := Nat.le_trans (nd_le2 nd2 fun z hz => sb z (.inr hz)) hm4
    have g0 : B.reads[(0 + (i : Int)).toNat]? = some pr := by rw [Int.zero_add, Int.toNat_natCast]; exact g
    walk_at "d"
    refine ⟨_, ins_adr (hx _ _ hm.hB), rfl, ?_⟩
    walk_at "d"
    refine ⟨.adr b, B, .adr r2, 0 + (i : Int), pr, rfl, ins_adr (hx _ _ hm.hB), by omega, g0, by show pr.1.length < 64; omega, fun q ys1 hq hS => ?_⟩
    have hq0 := hx.free hq
    have hx := hx.new (m := MkM a.C_Marks ys1) hq
    have h_q : updM μ' q (MkM a.C_Marks ys1) q = some (MkM a.C_Marks ys1) := updM_same
    generalize updM μ' q (MkM a.C_Marks ys1) = μ1 at hx h_q ⊢
    have yl := hS.len (ys := pr.1) (fun z h => h)
    walk_at "d"
    refine zz_grow hx hq0 h_q hS.1 (by omega) fun μ2 hx => ?_
    clear h_q
    walk_at "d"
    refine ⟨_, ins_adr (hx _ _ hm.hB), rfl, ?_⟩
    walk_at "d"
    refine ⟨.adr b, B, .adr r2, 0 + (i : Int), pr, rfl, ins_adr (hx _ _ hm.hB), by omega, g0, by show pr.2.length < 64; omega, fun q2 ys2 hq2 hS2 => ?_⟩
    have hq20 := hx.free hq2
    have hx := hx.new (m := MkM a.C_Marks ys2) hq2
    have h_q : updM μ2 q2 (MkM a.C_Marks ys2) q2 = some (MkM a.C_Marks ys2) := updM_same
    generalize updM μ2 q2 (MkM a.C_Marks ys2) = μ3 at hx h_q ⊢
    have yl2 := hS2.len (ys := pr.2) (fun z h => h)
    walk_at "d"
    refine zz_grow hx hq20 h_q hS2.1 (by omega) fun μ4 hx => ?_
    clear h_q
    walk_at "d"
    refine ⟨_, ins_adr (hx _ _ hm.hB), rfl, ?_⟩
    walk_at "d"
    refine ⟨.adr b, B, .adr r2, 0 + (i : Int), pr, rfl, ins_adr (hx _ _ hm.hB), by omega, g0, by show pr.1.length < 64; omega, fun q3 ys3 hq3 hS3 => ?_⟩
    have hx := hx.new (m := MkM a.C_Marks ys3) hq3
    have h_q : updM μ4 q3 (MkM a.C_Marks ys3) q3 = some (MkM a.C_Marks ys3) := updM_same
    generalize updM μ4 q3 (MkM a.C_Marks ys3) = μ5 at hx h_q ⊢
    have yl3 := hS3.len (ys := pr.1) (fun z h => h)
    walk_at "d"
    refine list_Marks h_q (by omega) ?_
    walk_at "d"
    refine ⟨_, dget_adr (hx _ _ hb.hE) bval.2.2.2.2.1, ?_⟩
    walk_at "d"
    refine oIx_items rfl (by rw [Int.zero_add]; exact atIn (x := .lst (sL pr.1)) (by rw [List.getElem?_map, g]; rfl)) ?_
    walk_at "d"
    refine alph (by omega) fun ya hSa => ?_
    refine ne_same (setOf_one hS3 hSa fun _ => Iff.rfl) (names_of (q := fun z => PyData.strOk z = true) hSa fun z hz => mark_ok z (hB.msub z (sb z (.inl hz)))) ?_
    walk_at "d"
    refine ⟨_, ins_adr (hx _ _ hm.hB), rfl, ?_⟩
    walk_at "d"
    refine ⟨.adr b, B, .adr r2, 0 + (i : Int), pr, rfl, ins_adr (hx _ _ hm.hB), by omega, g0, by show pr.2.length < 64; omega, fun q4 ys4 hq4 hS4 => ?_⟩
    have hx := hx.new (m := MkM a.C_Marks ys4) hq4
    have h_q : updM μ5 q4 (MkM a.C_Marks ys4) q4 = some (MkM a.C_Marks ys4) := updM_same
    generalize updM μ5 q4 (MkM a.C_Marks ys4) = μ6 at hx h_q ⊢
    have yl4 := hS4.len (ys := pr.2) (fun z h => h)
    walk_at "d"
    refine list_Marks h_q (by omega) ?_
    walk_at "d"
    refine ⟨_, dget_adr (hx _ _ hb.hE) bval.2.2.2.2.2.1, ?_⟩
    walk_at "d"
    refine oIx_items rfl (by rw [Int.zero_add]; exact atIn (x := .lst (sL pr.2)) (by rw [List.getElem?_map, g]; rfl)) ?_
    walk_at "d"
    refine alph (by omega) fun yb hSb => ?_
    refine ne_same (setOf_one hS4 hSb fun _ => Iff.rfl) (names_of (q := fun z => PyData.strOk z = true) hSb fun z hz => mark_ok z (hB.msub z (sb z (.inr hz)))) ?_
    walk_at "d"
    exact hU _ _ ⟨_, _, rfl, hx⟩
  · rintro γ' μ' ⟨o2, o3, rfl, hx⟩
    walk_at "d"
    refine ⟨_, dget_adr (hx _ _ hb.hE) bval.1, ?_⟩
    walk_at "d"
    refine for_pre (xs := B.E.kinds) D.str (fun _ γ' μ' => ∃ o3 o4, γ' = [some (.adr e), some (.adr b), o2, o3, o4] ∧ Ext μ μ') ⟨o3, none, rfl, hx⟩ (fun _ _ _ _ => trivial) ?_ ?_
    · clear hx
      rintro ys k zs ek γ' μ' ⟨o3, o4, rfl, hx⟩ U hU
      have kin : k ∈ B.E.kinds := by rw [ek]; simp
      have hhas : B.has k "fence" "up" = true := by unfold Bk.has placesB; rw [decide_eq_true kin, if_pos rfl]; simp
      obtain ⟨ns, hh, nnd, nmay⟩ := hl.holds k "fence" "up"
      have nl := (hl.len hB hh).1
      obtain ⟨y0, hS0, hH⟩ := hr.rule _ _ _ _ hh
      have y0l := hS0.len (ys := ns) (fun z h => h)
      walk_at "d"
      refine ⟨sz_of (by show 3 ≤ _; decide), ?_⟩
      refine ⟨⟨_, ins_adr (hx _ _ hm.hB)⟩, ?_⟩
      refine ⟨.adr b, B, .adr r2, tab2, k, "fence", "up", y0, rfl, ins_adr (hx _ _ hm.hB), by show dTM (μ' r2) = _; rw [hx _ _ hm.hR]; rfl, hH, by omega, fun _ q ys1 hq hS => ?_, fun w => by rw [hhas] at w; cases w⟩
      have hq0 := hx.free hq
      have hx := hx.new (m := MkM a.C_Marks ys1) hq
      have h_q : updM μ' q (MkM a.C_Marks ys1) q = some (MkM a.C_Marks ys1) := updM_same
      generalize updM μ' q (MkM a.C_Marks ys1) = μ1 at hx h_q ⊢
      have yl := hS.len (ys := y0) (fun z h => h)
      walk_at "d"
      refine zz_grow hx hq0 h_q hS.1 (by omega) fun μ2 hx => ?_
      clear h_q
      walk_at "d"
      refine ⟨sz_of (by show 3 ≤ _; decide), ?_⟩
      refine ⟨⟨_, ins_adr (hx _ _ hm.hB)⟩, ?_⟩
      refine ⟨.adr b, B, .adr r2, tab2, k, "fence", "up", y0, rfl, ins_adr (hx _ _ hm.hB), by show dTM (μ2 r2) = _; rw [hx _ _ hm.hR]; rfl, hH, by omega, fun _ q2 ys2 hq2 hS2 => ?_, fun w => by rw [hhas] at w; cases w⟩
      have hx := hx.new (m := MkM a.C_Marks ys2) hq2
      have h_q : updM μ2 q2 (MkM a.C_Marks ys2) q2 = some (MkM a.C_Marks ys2) := updM_same
      generalize updM μ2 q2 (MkM a.C_Marks ys2) = μ3 at hx h_q ⊢
      have yl2 := hS2.len (ys := y0) (fun z h => h)
      walk_at "d"
      refine list_Marks h_q (by omega) ?_
      walk_at "d"
      refine ⟨e, k, "fence", "up", r, B, tab, ns, rfl, ⟨hx _ _ hb.hE, hx _ _ hb.hR⟩, hh, hm4, ?_⟩
      have fl := List.length_filter_le (fun z => decide (z ∈ ns)) B.marks
      walk_at "d"
      refine ⟨_, B.marks.filter fun z => decide (z ∈ ns), rfl, fun _ => rfl, by omega, fun ya hSa => ?_⟩
      refine ne_same (setOf_one hS2 hSa fun z => ?_) (names_of (q := fun z => PyData.strOk z = true) hSa fun z hz => mark_ok z (hB.msub z (List.mem_filter.mp hz).1)) ?_
      · rw [hS0.2 z, List.mem_filter]
        exact ⟨fun w => ⟨may_mem (nmay z w), by simpa using w⟩, fun ⟨_, w⟩ => by simpa using w⟩
      walk_at "d"
      exact hU _ _ ⟨_, _, rfl, hx⟩
    · clear hx
      rintro γ' μ' ⟨o3, o4, rfl, hx⟩
      walk_at "d"
      exact ⟨μ, hx, h⟩
theorem ok_law_told_sets_stay {P : Program} {w : World} {K : PySem.W.Frag} {mg : Str → Option Value} {base : Heap} {a : Adr} (T : Txt K mg a) (G_Book_enters : FnD P w K mg base 3 a.f_Book_enters (w_Book_enters a)) (G_Marks_d_init : FnD P w K mg base 1 a.f_Marks_d_init (w_Marks_d_init a)) (G_Marks_d_ior : FnD P w K mg base 1 a.f_Marks_d_ior (w_Marks_d_ior a)) (G_Book_through : FnD P w K mg base 3 a.f_Book_through (w_Book_through a)) (G_Marks_d_len : FnD P w K mg base 1 a.f_Marks_d_len (w_Marks_d_len a)) (G_law_alphabet : FnD P w K mg base 2 a.f_law_alphabet (w_law_alphabet a)) (G_Book_d_getitem : FnD P w K mg base 3 a.f_Book_d_getitem (w_Book_d_getitem a)) (G_law_rule : FnD P w K mg base 1 a.f_law_rule (w_law_rule a)) (GI_Marks : FnR P w K mg base (L2.CX P w) 1 a.f_Marks_d_iter (spIterF K a.C_Marks "names")) (GL_Marks : FnR P w K mg base (L2.CX P w) 1 a.f_Marks_d_len (spLenF K a.C_Marks "names")) : FnD P w K mg base 5 a.f_law_told_sets_stay (w_law_told_sets_stay a) := by
  obtain ⟨fd, F⟩ := T.F_law_told_sets_stay.ex
  exact fn_D F (F.binds (ps := ["book", "made"]) fun _ _ _ _ _ _ us hl => match us, hl with | [_, _], _ => rfl) sc_law_told_sets_stay (fun ds μ Ξ Φ h => len_law_told_sets_stay h) fun cdv A outer s H E hr => ⟨B_law_told_sets_stay a, D_law_told_sets_stay T G_Book_enters G_Marks_d_init G_Marks_d_ior G_Book_through G_Marks_d_len G_law_alphabet G_Book_d_getitem G_law_rule GI_Marks GL_Marks cdv A outer s H E hr, fun ds μ Ξ Φ h => read_law_told_sets_stay ds μ Ξ Φ h⟩

/-- law -/
abbrev n_law : List Str := ["script", "tape", "book", "k", "made", "kind", "event", "place", "marks", "there", "old", "fine", "mark"]
theorem sc_law : FnScope n_law ["script"] (defScope s_law) := ⟨rfl, rfl, rfl, by decide +kernel, rfl, by decide +kernel, by decide +kernel⟩
def B_law (a : Adr) : TDS :=
  (dSeq (dAsg (dCall (w_law_tape a) (dCons (dVar 0) dNil)) (gNm 1)) (dSeq (dAsg (dCall (w_law_engine a) (dCons (dVar 1) (dCons (dC (.int 3)) (dCons (dC (.int 3)) (dCons (dC (.bl true)) dNil))))) (gNm 2)) (dSeq (dDrop (dCall (w_law_any_reads a) (dCons (dVar 1) (dCons (dVar 2) dNil)))) (dSeq (dDrop (dCall (w_law_more a) (dCons (dVar 1) (dCons (dVar 2) (dCons (dCall (w_law_pick a) (dCons (dVar 1) (dCons (dC (.int 13)) dNil))) dNil))))) (dSeq (dFor (dRng1 (dCons (dC (.int 3)) dNil)) (gNm 3) (dDrop (dCall (w_law_fence a) (dCons (dVar 1) (dCons (dVar 2) dNil))))) (dSeq (dAsg (dCall (w_law_made a) (dCons (dVar 2) dNil)) (gNm 4)) (dSeq (dIf (dNot (dTru (dCall (w_law_told_sets_stay a) (dCons (dVar 2) (dCons (dVar 4) dNil))))) (dRet (dC (.bl false))) dNext) (dSeq (dAsg (dCall (w_law_one a) (dCons (dVar 1) (dCons (dOp oAdd (dOp oDGet (dVar 2) (dC (.str "kinds"))) (dLst (dCons (dC (.str "qq")) dNil))) dNil))) (gNm 5)) (dSeq (dAsg (dCall (w_law_one a) (dCons (dVar 1) (dCons (dOp oAdd (dLst (dCons (dC (.str "style")) (dCons (dC (.str "insert")) (dCons (dC (.str "remove")) (dCons (dC (.str "move")) (dCons (dC (.str "fence")) (dCons (dC (.str "layout")) (dCons (dC (.str "qq")) dNil)))))))) (dOp oDGet (dVar 2) (dC (.str "names")))) dNil))) (gNm 6)) (dSeq (dAsg (dCall (w_law_one a) (dCons (dVar 1) (dCons (dLst (dCons (dC (.str "own")) (dCons (dC (.str "parent")) (dCons (dC (.str "next")) (dCons (dC (.str "up")) (dCons (dC (.str "up")) (dCons (dC (.str "children")) (dCons (dC (.str "before")) dNil)))))))) dNil))) (gNm 7)) (dSeq (dAsg (dLcM (dIt (dOp oDGet (dVar 2) (dC (.str "marks")))) (cNm 12) (dTest (dOp (oEq false) (dCall (w_law_pick a) (dCons (dVar 1) (dCons (dC (.int 2)) dNil))) (dC (.int 1)))) (dVar 12) [12]) (gNm 8)) (dSeq (dIf (dTest (dOp (oEq false) (dCall (w_law_pick a) (dCons (dVar 1) (dCons (dC (.int 3)) dNil))) (dC (.int 1)))) (dDrop (dBm isLis mAppend (dVar 8) (dCons (dCall (w_law_one a) (dCons (dVar 1) (dCons (dLst (dCons (dC (.str "aa")) (dCons (dC (.str "nn")) (dCons (dC (.str "zz")) dNil)))) dNil))) dNil))) dNext) (dSeq (dGh (dIf (dTest (dOp (oEq false) (dCall (w_law_pick a) (dCons (dVar 1) (dCons (dC (.int 3)) dNil))) (dC (.int 1)))) (dSeq (dAsg (dCall (w_law_one a) (dCons (dVar 1) (dCons (dOp oDGet (dVar 2) (dC (.str "kinds"))) dNil))) (gNm 5)) (dSeq (dAsg (dC (.str "fence")) (gNm 6)) (dSeq (dAsg (dCall (w_law_one a) (dCons (dVar 1) (dCons (dLst (dCons (dC (.str "up")) (dCons (dC (.str "up")) (dCons (dC (.str "up")) (dCons (dC (.str "parent")) dNil))))) dNil))) (gNm 7)) (dAsg (dLstM (dCons (dCall (w_law_one a) (dCons (dVar 1) (dCons (dOp oDGet (dVar 2) (dC (.str "marks"))) dNil))) dNil)) (gNm 8))))) dNext)) (dSeq (dAsg (dAndV (dOp (oEq true) (dVar 5) (dC (.str "qq"))) (dCall (w_law_has_rule a) (dCons (dVar 2) (dCons (dVar 6) (dCons (dVar 7) dNil))))) (gNm 9)) (dSeq (dAsg (dCall (w_law_read a) (dCons (dVar 4) (dCons (dVar 5) (dCons (dVar 6) (dCons (dVar 7) dNil))))) (gNm 10)) (dSeq (dIf (dOr (dAnd (dTru (dVar 9)) (dTest (dOp (oEq true) (dVar 10) (dCall (w_law_alphabet a) (dCons (dDGet2 (dOp oDGet (dVar 2) (dC (.str "rules"))) (dTup (dCons (dVar 5) (dCons (dVar 6) (dCons (dVar 7) dNil)))) (dLst dNil)) dNil))))) (dAnd (dNot (dTru (dVar 9))) (dTest (dOp (oIs true) (dVar 10) (dC .non))))) (dRet (dC (.bl false))) dNext) (dSeq (dAsg (dAndV (dVar 9) (dOp (oEq false) (dBi bLen (dCons (dLc (dIt (dVar 8)) (cNm 12) (dTest (dOp (oIn true) (dVar 12) (dOp oDGet (dVar 2) (dC (.str "marks"))))) (dVar 12) [12]) dNil)) (dC (.int 0)))) (gNm 11)) (dSeq (dIf (dAnd (dTest (dOp (oEq false) (dVar 6) (dC (.str "fence")))) (dTru (dCall (w_law_meets a) (dCons (dVar 8) (dCons (dCall (w_law_ways a) (dCons (dVar 2) dNil)) dNil))))) (dAsg (dC (.bl false)) (gNm 11)) dNext) (dSeq (dIf (dTest (dOp (oEq true) (dCall (w_law_is_set a) (dCons (dVar 4) (dCons (dVar 5) (dCons (dVar 6) (dCons (dVar 7) (dCons (dVar 8) dNil)))))) (dVar 11))) (dRet (dC (.bl false))) dNext) (dSeq (dIf (dTru (dVar 11)) (dSeq (dAsg (dVar 8) (gDx (dOp oDGet (dVar 2) (dC (.str "rules"))) (dTup (dCons (dVar 5) (dCons (dVar 6) (dCons (dVar 7) dNil)))))) (dAsg (dCall (w_law_alphabet a) (dCons (dVar 8) dNil)) (gNm 10))) dNext) (dRet (dAndV (dOp (oEq false) (dCall (w_law_read a) (dCons (dVar 4) (dCons (dVar 5) (dCons (dVar 6) (dCons (dVar 7) dNil))))) (dVar 10)) (dOp (oEq false) (dMeth a.C_Book "atoms" (w_Book_atoms a) (dVar 4) dNil) (dCall (w_law_atoms a) (dCons (dVar 2) dNil)))))))))))))))))))))))))
theorem D_law {P : Program} {w : World} {K : PySem.W.Frag} {mg : Str → Option Value} {base : Heap} {a : Adr} (T : Txt K mg a) (G_law_tape : FnD P w K mg base 1 a.f_law_tape (w_law_tape a)) (G_law_engine : FnD P w K mg base 4 a.f_law_engine (w_law_engine a)) (G_law_any_reads : FnD P w K mg base 4 a.f_law_any_reads (w_law_any_reads a)) (G_law_more : FnD P w K mg base 4 a.f_law_more (w_law_more a)) (G_law_pick : FnD P w K mg base 1 a.f_law_pick (w_law_pick a)) (G_law_fence : FnD P w K mg base 3 a.f_law_fence (w_law_fence a)) (G_law_made : FnD P w K mg base 6 a.f_law_made (w_law_made a)) (G_law_told_sets_stay : FnD P w K mg base 5 a.f_law_told_sets_stay (w_law_told_sets_stay a)) (G_law_one : FnD P w K mg base 2 a.f_law_one (w_law_one a)) (G_law_has_rule : FnD P w K mg base 2 a.f_law_has_rule (w_law_has_rule a)) (G_law_read : FnD P w K mg base 5 a.f_law_read (w_law_read a)) (G_law_alphabet : FnD P w K mg base 2 a.f_law_alphabet (w_law_alphabet a)) (G_law_meets : FnD P w K mg base 1 a.f_law_meets (w_law_meets a)) (G_law_ways : FnD P w K mg base 1 a.f_law_ways (w_law_ways a)) (G_law_is_set : FnD P w K mg base 4 a.f_law_is_set (w_law_is_set a)) (G_Book_atoms : FnD P w K mg base 2 a.f_Book_atoms (w_Book_atoms a)) (G_law_atoms : FnD P w K mg base 2 a.f_law_atoms (w_law_atoms a)) (cdv : Value) (A : Around) (outer : List PySem.Env) (s : Shared) (H : Hp) (E : XK) (hr : Room 6 (A.deeper (PyProof.Rows.envOfC "law" (defScope s_law) s.heap.objs.size a.f_law cdv))) :
    PSs (cxOf (L2.CX P w) P w K mg base n_law "law" (defScope s_law) a.f_law cdv A outer s H E) (defBody s_law) (tDS K (fun cls d _ H => E cls d H) (B_law a)) := by
  have tk : Takes (cxOf (L2.CX P w) P w K mg base n_law "law" (defScope s_law) a.f_law cdv A outer s H E) (fun cls d _ H => E cls d H) := takes_of rfl rfl rfl rfl
  exact (ss_cons (s_set 1 sc_law.nd (e_call (cal_def G_law_tape (hr.mono (by decide)) tk) T.g_law_tape T.F_law_tape.kp (a_cons (e_var 0) a_nil))) (ss_cons (s_set 2 sc_law.nd (e_call (cal_def G_law_engine (hr.mono (by decide)) tk) T.g_law_engine T.F_law_engine.kp (a_cons (e_var 1) (a_cons e_int (a_cons e_int (a_cons e_bl a_nil)))))) (ss_cons (s_expr (e_call (cal_def G_law_any_reads (hr.mono (by decide)) tk) T.g_law_any_reads T.F_law_any_reads.kp (a_cons (e_var 1) (a_cons (e_var 2) a_nil)))) (ss_cons (s_expr (e_call (cal_def G_law_more (hr.mono (by decide)) tk) T.g_law_more T.F_law_more.kp (a_cons (e_var 1) (a_cons (e_var 2) (a_cons (e_call (cal_def G_law_pick (hr.mono (by decide)) tk) T.g_law_pick T.F_law_pick.kp (a_cons (e_var 1) (a_cons e_int a_nil))) a_nil))))) (ss_cons (s_for (passes_of rfl) rfl (i_range1 T.z_range (a_cons e_int a_nil)) (g_name 3 sc_law.nd) (ss_one (s_expr (e_call (cal_def G_law_fence (hr.mono (by decide)) tk) T.g_law_fence T.F_law_fence.kp (a_cons (e_var 1) (a_cons (e_var 2) a_nil)))))) (ss_cons (s_set 4 sc_law.nd (e_call (cal_def G_law_made (hr.mono (by decide)) tk) T.g_law_made T.F_law_made.kp (a_cons (e_var 2) a_nil))) (ss_cons (s_if (t_not (t_tru (e_call (cal_def G_law_told_sets_stay (hr.mono (by decide)) tk) T.g_law_told_sets_stay T.F_law_told_sets_stay.kp (a_cons (e_var 2) (a_cons (e_var 4) a_nil))))) (ss_one (s_ret e_bl)) ss_nil) (ss_cons (s_set 5 sc_law.nd (e_call (cal_def G_law_one (hr.mono (by decide)) tk) T.g_law_one T.F_law_one.kp (a_cons (e_var 1) (a_cons (e_bin op_addA od_add (e_dget (huD hr) (e_var 2) e_str) (e_lst (a_cons e_str a_nil))) a_nil)))) (ss_cons (s_set 6 sc_law.nd (e_call (cal_def G_law_one (hr.mono (by decide)) tk) T.g_law_one T.F_law_one.kp (a_cons (e_var 1) (a_cons (e_bin op_addA od_add (e_lst (a_cons e_str (a_cons e_str (a_cons e_str (a_cons e_str (a_cons e_str (a_cons e_str (a_cons e_str a_nil)))))))) (e_dget (huD hr) (e_var 2) e_str)) a_nil)))) (ss_cons (s_set 7 sc_law.nd (e_call (cal_def G_law_one (hr.mono (by decide)) tk) T.g_law_one T.F_law_one.kp (a_cons (e_var 1) (a_cons (e_lst (a_cons e_str (a_cons e_str (a_cons e_str (a_cons e_str (a_cons e_str (a_cons e_str (a_cons e_str a_nil)))))))) a_nil)))) (ss_cons (s_setLcM (own := [("mark", 12)]) 8 rfl sc_law.nd (ct_name 12) (i_seq (e_dget (huD hr) (e_var 2) e_str)) (blkOk_by (own := [("mark", 12)]) (N := n_law) (sc := defScope s_law) (by decide +kernel)) (fun _ _ _ _ _ => (pg_name (i := 12) sc_law.nd rfl (by first | exact .inl rfl | exact .inr rfl))) (fun _ _ _ _ _ => (ts_one (t_cmp (op_eqA hr) od_eq (e_call (cal_def G_law_pick (hr.mono (by decide)) takes0) T.g_law_pick T.F_law_pick.kp (a_cons (e_var 1) (a_cons e_int a_nil))) e_int))) (fun _ _ _ _ _ => (e_var 12))) (ss_cons (s_if (t_cmp (op_eqA hr) od_eq (e_call (cal_def G_law_pick (hr.mono (by decide)) tk) T.g_law_pick T.F_law_pick.kp (a_cons (e_var 1) (a_cons e_int a_nil))) e_int) (ss_one (s_expr (e_bm PySem.F.plainAttrs_list PySem.F.slot_list_append PySem.F.type_list_append mt_append md_append (e_var 8) (a_cons (e_call (cal_def G_law_one (hr.mono (by decide)) tk) T.g_law_one T.F_law_one.kp (a_cons (e_var 1) (a_cons (e_lst (a_cons e_str (a_cons e_str (a_cons e_str a_nil)))) a_nil))) a_nil)))) ss_nil) (ss_cons (s_gh (s_if (t_cmp (op_eqA hr) od_eq (e_call (cal_def G_law_pick (hr.mono (by decide)) tk) T.g_law_pick T.F_law_pick.kp (a_cons (e_var 1) (a_cons e_int a_nil))) e_int) (ss_cons (s_set 5 sc_law.nd (e_call (cal_def G_law_one (hr.mono (by decide)) tk) T.g_law_one T.F_law_one.kp (a_cons (e_var 1) (a_cons (e_dget (huD hr) (e_var 2) e_str) a_nil)))) (ss_cons (s_set 6 sc_law.nd e_str) (ss_cons (s_set 7 sc_law.nd (e_call (cal_def G_law_one (hr.mono (by decide)) tk) T.g_law_one T.F_law_one.kp (a_cons (e_var 1) (a_cons (e_lst (a_cons e_str (a_cons e_str (a_cons e_str (a_cons e_str a_nil))))) a_nil)))) (ss_one (s_set 8 sc_law.nd (e_lstM (a_cons (e_call (cal_def G_law_one (hr.mono (by decide)) tk) T.g_law_one T.F_law_one.kp (a_cons (e_var 1) (a_cons (e_dget (huD hr) (e_var 2) e_str) a_nil))) a_nil))))))) ss_nil)) (ss_cons (s_set 9 sc_law.nd (e_and (e_cmp (op_neA hr) od_ne (e_var 5) e_str) (e_one (e_call (cal_def G_law_has_rule (hr.mono (by decide)) tk) T.g_law_has_rule T.F_law_has_rule.kp (a_cons (e_var 2) (a_cons (e_var 6) (a_cons (e_var 7) a_nil))))))) (ss_cons (s_set 10 sc_law.nd (e_call (cal_def G_law_read (hr.mono (by decide)) tk) T.g_law_read T.F_law_read.kp (a_cons (e_var 4) (a_cons (e_var 5) (a_cons (e_var 6) (a_cons (e_var 7) a_nil)))))) (ss_cons (s_if (PW.pt (w_or (PW.pt (w_and (t_tru (e_var 9)) (w_and1 (t_cmp (op_neA hr) od_ne (e_var 10) (e_call (cal_def G_law_alphabet (hr.mono (by decide)) tk) T.g_law_alphabet T.F_law_alphabet.kp (a_cons (e_dget2 (huD hr) (e_dget (huD hr) (e_var 2) e_str) (e_tup (a_cons (e_var 5) (a_cons (e_var 6) (a_cons (e_var 7) a_nil)))) (e_lst a_nil)) a_nil)))))) (w_or1 (PW.pt (w_and (t_not (t_tru (e_var 9))) (w_and1 (t_cmp op_notN od_notN (e_var 10) e_non))))))) (ss_one (s_ret e_bl)) ss_nil) (ss_cons (s_set 11 sc_law.nd (e_and (e_var 9) (e_one (e_cmp (op_eqA hr) od_eq (e_bi call_len bd_len T.z_len (a_cons (e_lc (own := [("mark", 12)]) rfl sc_law.nd (ct_name 12) (i_seq (e_var 8)) (blkOk_by (own := [("mark", 12)]) (N := n_law) (sc := defScope s_law) (by decide +kernel)) (fun _ _ _ _ _ => (pg_name (i := 12) sc_law.nd rfl (by first | exact .inl rfl | exact .inr rfl))) (fun _ _ _ _ _ => (ts_one (t_cmp op_notIn_seq od_in (e_var 12) (e_dget (huD hr) (e_var 2) e_str)))) (fun _ _ _ _ _ => (e_var 12))) a_nil)) e_int)))) (ss_cons (s_if (PW.pt (w_and (t_cmp (op_eqA hr) od_eq (e_var 6) e_str) (w_and1 (t_tru (e_call (cal_def G_law_meets (hr.mono (by decide)) tk) T.g_law_meets T.F_law_meets.kp (a_cons (e_var 8) (a_cons (e_call (cal_def G_law_ways (hr.mono (by decide)) tk) T.g_law_ways T.F_law_ways.kp (a_cons (e_var 2) a_nil)) a_nil))))))) (ss_one (s_set 11 sc_law.nd e_bl)) ss_nil) (ss_cons (s_if (t_cmp (op_neA hr) od_ne (e_call (cal_def G_law_is_set (hr.mono (by decide)) tk) T.g_law_is_set T.F_law_is_set.kp (a_cons (e_var 4) (a_cons (e_var 5) (a_cons (e_var 6) (a_cons (e_var 7) (a_cons (e_var 8) a_nil)))))) (e_var 11)) (ss_one (s_ret e_bl)) ss_nil) (ss_cons (s_if (t_tru (e_var 11)) (ss_cons (s_asg (e_var 8) (g_dx (huD hr) (e_dget (huD hr) (e_var 2) e_str) (e_tup (a_cons (e_var 5) (a_cons (e_var 6) (a_cons (e_var 7) a_nil)))))) (ss_one (s_set 10 sc_law.nd (e_call (cal_def G_law_alphabet (hr.mono (by decide)) tk) T.g_law_alphabet T.F_law_alphabet.kp (a_cons (e_var 8) a_nil))))) ss_nil) (ss_one (s_ret (e_and (e_cmp (op_eqA hr) od_eq (e_call (cal_def G_law_read (hr.mono (by decide)) tk) T.g_law_read T.F_law_read.kp (a_cons (e_var 4) (a_cons (e_var 5) (a_cons (e_var 6) (a_cons (e_var 7) a_nil))))) (e_var 10)) (e_one (e_cmp (op_eqA hr) od_eq (e_meth0 (cal_def G_Book_atoms (hr.mono (by decide)) tk) T.o_Book.cl T.mt_Book_atoms (e_var 4)) (e_call (cal_def G_law_atoms (hr.mono (by decide)) tk) T.g_law_atoms T.F_law_atoms.kp (a_cons (e_var 2) a_nil)))))))))))))))))))))))))))
theorem kind_ok : ∀ z ∈ kindMenu, PyData.strOk z = true := by decide +kernel
theorem name_ok : ∀ z ∈ nameMenu, PyData.strOk z = true := by decide +kernel
theorem place_ok (attrs : List Str) (e : Str) : ∀ z ∈ placesB attrs e, PyData.strOk z = true := by
  unfold placesB
  split
  · decide +kernel
  · split
    · decide +kernel
    · split
      · decide +kernel
      · split
        · decide +kernel
        · simp
def atomS (B : Bk) (f : Str → Str → Str → List Str) : List (List Str) := B.E.kinds.flatMap fun k => (k_WORDS ++ B.E.attrs).flatMap fun e => (placesB B.E.attrs e).flatMap fun p => (B.marks.filter fun m => decide (m ∈ f k e p)).map fun m => [k, e, p, m]
theorem atomS_D (B : Bk) (f : Str → Str → Str → List Str) : atomsB B f = (atomS B f).map fun a => .tup (sL a) := by
  unfold atomsB atomS
  simp only [List.map_flatMap, List.map_map]
  rfl
theorem atomS_ok {B : Bk} (hB : B.Law) (f : Str → Str → Str → List Str) : ∀ a ∈ atomS B f, ∀ x ∈ a, PyData.strOk x = true := by
  intro a ha x hx
  obtain ⟨k, hk, ha⟩ := List.mem_flatMap.mp ha
  obtain ⟨e, he, ha⟩ := List.mem_flatMap.mp ha
  obtain ⟨p, hp, ha⟩ := List.mem_flatMap.mp ha
  obtain ⟨m, hm, rfl⟩ := List.mem_map.mp ha
  simp only [List.mem_cons, List.not_mem_nil, or_false] at hx
  rcases hx with rfl | rfl | rfl | rfl
  · exact kind_ok _ (hB.elaw.kinds _ hk)
  · rcases List.mem_append.mp he with he | he
    · exact (by decide +kernel : ∀ z ∈ k_WORDS, PyData.strOk z = true) _ he
    · exact name_ok _ (hB.elaw.attrs _ he)
  · exact place_ok _ _ _ hp
  · exact mark_ok _ (hB.msub _ (List.mem_filter.mp hm).1)
theorem atomsB_congr {B : Bk} {f g : Str → Str → Str → List Str} (h : ∀ k e p z, z ∈ f k e p ↔ z ∈ g k e p) : atomsB B f = atomsB B g := by
  unfold atomsB
  have : (fun k e p => B.marks.filter fun m => decide (m ∈ f k e p)) = fun k e p => B.marks.filter fun m => decide (m ∈ g k e p) := by
    funext k e p
    congr 1
    funext m
    exact decide_eq_decide.mpr (h k e p m)
  have t := fun k e p => congrFun (congrFun (congrFun this k) e) p
  simp only [t]
/-- the rules of a table of the law, as a function -/
theorem lfun {B : Bk} {tab : Rt} (h : LTab B tab) : ∃ f : Str → Str → Str → List Str, ∀ k e p, LHolds tab k e p (f k e p) :=
  ⟨fun k e p => Classical.choose (h.holds k e p), fun k e p => (Classical.choose_spec (h.holds k e p)).1⟩
theorem rfun {tab tab2 : Rt} (h : RulesOf tab tab2) {f : Str → Str → Str → List Str} (hf : ∀ k e p, LHolds tab k e p (f k e p)) : ∃ g : Str → Str → Str → List Str, ∀ k e p, SetOf (g k e p) (· ∈ f k e p) ∧ Holds tab2 k e p (g k e p) :=
  ⟨fun k e p => Classical.choose (h.rule _ _ _ _ (hf k e p)), fun k e p => Classical.choose_spec (h.rule _ _ _ _ (hf k e p))⟩
theorem all_congr {xs : List Str} {p q : Str → Bool} (h : ∀ z ∈ xs, p z = q z) : xs.all p = xs.all q := by
  induction xs with
  | nil => rfl
  | cons x xs ih => rw [List.all_cons, List.all_cons, h x (by simp), ih fun z hz => h z (by simp [hz])]
theorem eqL_same {xs ys : List Str} {μ : Mu} {Φ : KD} (e : xs = ys) (h1 : ∀ x ∈ ys, PyData.strOk x = true) (h : Φ (.bl true) μ) : oEq false (.lst (sL xs)) (.lst (sL ys)) μ Φ := by
  subst e
  exact oEq_strs h1 h1 (by rw [decide_eq_true rfl]; exact h)
theorem len_law {a : Adr} {ds μ Ξ Φ} (h : w_law a ds μ Ξ Φ) : ds.length = 1 := by obtain ⟨_, _, rfl, _⟩ := h; rfl
theorem read_law {a : Adr} : ∀ ds μ Ξ Φ, w_law a ds μ Ξ Φ → B_law a { nx := fun _ μ' => Φ .non μ', rt := Φ } (startG n_law ds) μ (fun _ => Ξ) := by
  rintro ds μ Ξ Φ ⟨ns, hns, rfl, hμ, h⟩
  unfold B_law
  walk_at "d"
  refine ⟨ns, hns, rfl, fun tp m htp hm => ?_⟩
  walk_at "d"
  refine ⟨tp, m, 3, 3, rfl, updM_same, hm, by omega, by omega, by omega, by omega, fun e E m' hE hEl _ _ he hm' => ?_⟩
  rw [updM_updM]
  have etp : e ≠ tp := fun z => by subst z; rw [updM_same] at he; cases he
  walk_at "d"
  refine ⟨tp, m', e, E, rfl, by rw [updM_ne etp.symm, updM_same], hm', etp, updM_same, hE.p1, hE.p3, fun marks reads r m2 hBg hmsub hr rtp re hm2 => ?_⟩
  rw [updM_upd2 etp.symm, updM_updM]
  generalize hBB : Bk.mk E marks reads = B at *
  have hB : B.Law := ⟨hBg, by rw [← hBB]; exact hE, by rw [← hBB]; exact hEl, by rw [← hBB]; exact hmsub⟩
  have f_tp : updM (updM (updM μ tp m2) e (.dK (bookEs B (.adr r)))) r (.dT []) tp = some m2 := by rw [updM_ne rtp.symm, updM_ne etp.symm, updM_same]
  have f_bk : BkAt (updM (updM (updM μ tp m2) e (.dK (bookEs B (.adr r)))) r (.dT [])) e r B [] := ⟨by rw [updM_ne re.symm, updM_same], updM_same⟩
  generalize updM (updM (updM μ tp m2) e (.dK (bookEs B (.adr r)))) r (.dT []) = μ1 at *
  have lt0 : LTab B [] := ⟨List.nodup_nil, by simp⟩
  walk_at "d"
  refine ⟨tp, m2, 13, rfl, f_tp, hm2, by omega, by omega, fun n m3 n0 n13 hm3 => ?_⟩
  obtain ⟨n, rfl⟩ := Int.eq_ofNat_of_zero_le n0
  walk_at "d"
  have kp : ∀ {μ1 : Mu} {tab : Rt} (m3 : MO), BkAt μ1 e r B tab → BkAt (updM μ1 tp m3) e r B tab := fun m3 hb => ⟨by rw [updM_ne etp]; exact hb.hE, by rw [updM_ne rtp]; exact hb.hR⟩
  refine ⟨tp, m3, e, r, B, [], n, rfl, updM_same, hm3, etp, rtp, kp m3 f_bk, lt0, hB, by simp; omega, fun tab m4 hl hz hm4 => ?_⟩
  rw [updM_updM]
  have wr : ∀ {μ1 : Mu} {tab : Rt} (m3 : MO) (tab2 : Rt), BkAt μ1 e r B tab → BkAt (updM (updM μ1 tp m3) r (.dT tab2)) e r B tab2 := fun m3 tab2 hb => ⟨by rw [updM_ne re.symm, updM_ne etp]; exact hb.hE, updM_same⟩
  have f_tp : updM (updM μ1 tp m4) r (.dT tab) tp = some m4 := by rw [updM_ne rtp.symm, updM_same]
  have f_bk := wr m4 tab f_bk
  generalize updM (updM μ1 tp m4) r (.dT tab) = μ2 at *
  have hz : tab.length ≤ 13 := by simp at hz; omega
  walk_at "d"
  refine ⟨3, rfl, by omega, by omega, ?_⟩
  refine for_pre (xs := List.range (3 : Int).toNat) (fun i : Nat => D.int (0 + i)) (fun ys γ' μ' => ∃ tab m' o3, γ' = [some (.fro (ns.map D.int)), some (.adr tp), some (.adr e), o3, none, none, none, none, none, none, none, none, none] ∧ μ' tp = some m' ∧ IsTape m' ∧ BkAt μ' e r B tab ∧ LTab B tab ∧ tab.length ≤ 13 + ys.length) ⟨tab, m4, none, rfl, f_tp, hm4, f_bk, hl, by simpa using hz⟩ (fun _ _ _ _ => trivial) ?_ ?_
  · clear hl hz f_tp f_bk hm4
    rintro ys i zs ei γ' μ' ⟨tab, m', o3, rfl, f_tp, hm', f_bk, hl, hz⟩ U hU
    have yl : ys.length + 1 ≤ 3 := by have := congrArg List.length ei; rw [List.length_append, List.length_cons, List.length_range] at this; simp at this; omega
    walk_at "d"
    refine ⟨tp, m', e, r, B, tab, rfl, f_tp, hm', etp, rtp, f_bk, hl, hB, by omega, fun tab2 m2 hl2 hz2 hm2 => ?_⟩
    exact hU _ _ ⟨tab2, m2, _, rfl, by rw [updM_ne rtp.symm, updM_same], hm2, wr m2 tab2 f_bk, hl2, by rw [List.length_append]; simp; omega⟩
  rintro γ' μ' ⟨tab, m5, o3, rfl, f_tp, hm5, f_bk, hl, hz⟩
  have hz : tab.length ≤ 16 := by rw [List.length_range] at hz; simp at hz; omega
  obtain ⟨⟨k1, hk⟩, ⟨a1, ha⟩, ⟨m1, hm4⟩, r3⟩ := hB.lens
  walk_at "d"
  refine ⟨e, r, B, tab, rfl, f_bk, hl, hB, by omega, fun b r2 tab2 hr hb0 hr20 br2 => ?_⟩
  have btp : b ≠ tp := mu_ne' f_tp hb0
  have r2tp : r2 ≠ tp := mu_ne' f_tp hr20
  have be : b ≠ e := mu_ne' f_bk.hE hb0
  have br : b ≠ r := mu_ne' f_bk.hR hb0
  have r2e : r2 ≠ e := mu_ne' f_bk.hE hr20
  have r2r : r2 ≠ r := mu_ne' f_bk.hR hr20
  have g_tp : updM (updM μ' b (.ins a.C_Book (B.flds a.C_Engine (.adr r2)))) r2 (.dT tab2) tp = some m5 := by rw [updM_ne r2tp.symm, updM_ne btp.symm]; exact f_tp
  have g_bk : BkAt (updM (updM μ' b (.ins a.C_Book (B.flds a.C_Engine (.adr r2)))) r2 (.dT tab2)) e r B tab := ⟨by rw [updM_ne r2e.symm, updM_ne be.symm]; exact f_bk.hE, by rw [updM_ne r2r.symm, updM_ne br.symm]; exact f_bk.hR⟩
  have g_mk : MadeAt a (updM (updM μ' b (.ins a.C_Book (B.flds a.C_Engine (.adr r2)))) r2 (.dT tab2)) b r2 B tab2 := ⟨by rw [updM_ne br2, updM_same], updM_same⟩
  generalize updM (updM μ' b (.ins a.C_Book (B.flds a.C_Engine (.adr r2)))) r2 (.dT tab2) = μ3 at *
  clear f_tp f_bk
  walk_at "d"
  refine ⟨e, r, b, r2, B, tab, tab2, rfl, g_bk, g_mk, hl, hr, hB, ?_⟩
  walk_at "d"
  -- the tape moves
  have kpm : ∀ {μ1 : Mu} {tab : Rt} (m3 : MO), MadeAt a μ1 b r2 B tab → MadeAt a (updM μ1 tp m3) b r2 B tab := fun m3 hb => ⟨by rw [updM_ne btp]; exact hb.hB, by rw [updM_ne r2tp]; exact hb.hR⟩
  refine ⟨_, dget_adr g_bk.hE bval.1, ?_⟩
  walk_at "d"
  refine ⟨sz_of (by show 1 ≤ _; decide), ?_⟩
  refine oAdd_lst (a := sL B.E.kinds) (b := sL ["qq"]) (by rw [List.length_map]; simp; exact sz_of (by omega)) ?_
  rw [← sL_app']
  walk_at "d"
  refine one_str g_tp hm5 (by simp) (by simp; omega) fun kd m6 hkd hm6 => ?_
  have g_bk := kp m6 g_bk
  have g_mk := kpm m6 g_mk
  have g_tp : updM μ3 tp m6 tp = some m6 := updM_same
  generalize updM μ3 tp m6 = μ4 at *
  walk_at "d"
  refine ⟨sz_of (by decide), ?_⟩
  walk_at "d"
  refine ⟨_, dget_adr g_bk.hE bval.2.1, ?_⟩
  refine oAdd_lst (a := sL ["style", "insert", "remove", "move", "fence", "layout", "qq"]) (b := sL B.E.attrs) (by simp; exact sz_of (by omega)) ?_
  rw [← sL_app']
  walk_at "d"
  refine one_str g_tp hm6 (by simp) (by simp; omega) fun ev m7 hev hm7 => ?_
  have g_bk := kp m7 g_bk
  have g_mk := kpm m7 g_mk
  have g_tp : updM μ4 tp m7 tp = some m7 := updM_same
  generalize updM μ4 tp m7 = μ5 at *
  walk_at "d"
  refine ⟨sz_of (by decide), ?_⟩
  walk_at "d"
  refine one_str (xs := ["own", "parent", "next", "up", "up", "children", "before"]) g_tp hm7 (by simp) (by simp) fun pl m8 hpl hm8 => ?_
  have g_bk := kp m8 g_bk
  have g_mk := kpm m8 g_mk
  have g_tp : updM μ5 tp m8 tp = some m8 := updM_same
  generalize updM μ5 tp m8 = μ6 at *
  walk_at "d"
  refine ⟨_, dget_adr g_bk.hE bval.2.2.1, ?_⟩
  walk_at "d"
  refine lc_pre (xs := B.marks) D.str (fun ys acc μ' => ∃ q m', acc = sL q ∧ q.Sublist ys ∧ μ' = updM μ6 tp m' ∧ IsTape m') ⟨[], m8, rfl, List.Sublist.refl _, (updM_self g_tp).symm, hm8⟩ (fun _ _ _ _ => trivial) ?_ ?_
  · rintro ms z ws ez acc μ' ⟨q, m', rfl, hq, rfl, hm'⟩ W hW hW2
    have rl : q.length ≤ 4 := by have := hq.length_le; have := congrArg List.length ez; rw [List.length_append] at this; omega
    walk_at "d"
    refine ⟨tp, m', 2, rfl, updM_same, hm', by omega, by omega, fun d m4 d0 d1 hm4 => ?_⟩
    rw [updM_updM]
    walk_at "d"
    refine ite_d (fun q2 => ?_) fun q2 => ?_
    · walk_at "d"
      exact hW _ _ (sz_lt (by rw [List.length_map]; omega)) ⟨q ++ [z], m4, (sL_app' q [z]).symm, hq.append (List.Sublist.refl _), rfl, hm4⟩
    · exact hW2 _ ⟨q, m4, rfl, hq.trans (List.sublist_append_left _ _), rfl, hm4⟩
  rintro acc μ7 ⟨ms, m9, rfl, hmsb, rfl, hm9⟩
  have msl : ms.length ≤ 4 := Nat.le_trans hmsb.length_le hm4
  have g_bk := kp m9 g_bk
  have g_mk := kpm m9 g_mk
  have g_tp : updM μ6 tp m9 tp = some m9 := updM_same
  generalize updM μ6 tp m9 = μ7 at *
  walk_at "d"
  intro q hq
  have qtp : q ≠ tp := mu_ne' g_tp hq
  have qe : q ≠ e := mu_ne' g_bk.hE hq
  have qr : q ≠ r := mu_ne' g_bk.hR hq
  have qb : q ≠ b := mu_ne' g_mk.hB hq
  have qr2 : q ≠ r2 := mu_ne' g_mk.hR hq
  -- everything that is known, behind each of the statements
  let K : List Str → Mu → Prop := fun ms μ' => (∃ m', μ' tp = some m' ∧ IsTape m') ∧ BkAt μ' e r B tab ∧ MadeAt a μ' b r2 B tab2 ∧ μ' q = some (.lst (sL ms)) ∧ ms.length ≤ 5
  have K0 : K ms (updM μ7 q (.lst (sL ms))) := ⟨⟨m9, by rw [updM_ne qtp.symm]; exact g_tp, hm9⟩, g_bk.keep hq, g_mk.keep hq, updM_same, by omega⟩
  have Kt : ∀ {ms μ'} (m' : MO), IsTape m' → K ms μ' → K ms (updM μ' tp m') := fun m' hm' ⟨_, w1, w2, w3, w4⟩ => ⟨⟨m', updM_same, hm'⟩, kp m' w1, kpm m' w2, by rw [updM_ne qtp]; exact w3, w4⟩
  have Kq : ∀ {ms μ'} (ms2 : List Str), ms2.length ≤ 5 → K ms μ' → K ms2 (updM μ' q (.lst (sL ms2))) := fun ms2 hl ⟨⟨m', t1, t2⟩, w1, w2, w3, w4⟩ => ⟨⟨m', by rw [updM_ne qtp.symm]; exact t1, t2⟩, ⟨by rw [updM_ne qe.symm]; exact w1.hE, by rw [updM_ne qr.symm]; exact w1.hR⟩, ⟨by rw [updM_ne qb.symm]; exact w2.hB, by rw [updM_ne qr2.symm]; exact w2.hR⟩, updM_same, hl⟩
  have okq : ∀ z ∈ (["qq", "zz", "aa", "nn"] : List Str), PyData.strOk z = true := by decide +kernel
  generalize updM μ7 q (.lst (sL ms)) = μ8 at K0 ⊢
  clear hq g_tp g_bk g_mk
  have kq : ∀ k ∈ B.E.kinds, k ≠ "qq" := fun k hk e => (by decide +kernel : ("qq" : Str) ∉ kindMenu) (e ▸ hB.elaw.kinds k hk)
  replace hkd : kd ∈ B.E.kinds ∨ kd = "qq" := by
    rcases List.mem_append.mp hkd with w | w
    · exact .inl w
    · exact .inr (List.mem_singleton.mp w)
  have hms : ∀ z ∈ ms, PyData.strOk z = true := fun z hz => mark_ok z (hB.msub z (hmsb.subset hz))
  let FX : Str → Str → Str → D → Ga := fun kd ev pl d => [some (.fro (ns.map D.int)), some (.adr tp), some (.adr e), o3, some (.adr b), some (.str kd), some (.str ev), some (.str pl), some d, none, none, none, none]
  refine dSeq_to (fun γ' μ' => ∃ ms, γ' = FX kd ev pl (.adr q) ∧ K ms μ' ∧ ∀ z ∈ ms, PyData.strOk z = true) ?_ fun U hU => ?_
  · clear K0 hms hmsb msl ms
    rintro γ' μ' ⟨ms, rfl, hK, hms⟩
    refine dSeq_to (fun γ' μ' => ∃ kd ev pl ms, γ' = FX kd ev pl (.lst (sL ms)) ∧ BkAt μ' e r B tab ∧ MadeAt a μ' b r2 B tab2 ∧ ms.length ≤ 5 ∧ (∀ z ∈ ms, PyData.strOk z = true) ∧ (kd ∈ B.E.kinds ∨ kd = "qq")) ?_ fun U hU => ?_
    · clear hK hms hkd hev hpl kd ev pl ms
      rintro γ' μ' ⟨kd, ev, pl, ms, rfl, g_bk, g_mk, hml, hms, hkd⟩
      obtain ⟨f, hf⟩ := lfun hl
      obtain ⟨g, hg⟩ := rfun hr hf
      have gl : ∀ k e p, (g k e p).length ≤ 4 := fun k e p => Nat.le_trans ((hg k e p).1.len (ys := f k e p) fun z h => h) (hl.len hB (hf k e p)).1
      have fok : ∀ k e p, ∀ z ∈ f k e p, PyData.strOk z = true := fun k e p z hz => mark_ok z (hB.msub z (may_mem ((hl.len hB (hf k e p)).2.2 z hz)))
      have t16 : tab2.length ≤ 16 := Nat.le_trans hr.len hz
      refine dSeq_to (fun γ' μ'' => μ' = μ'' ∧ γ' = [some (.fro (ns.map D.int)), some (.adr tp), some (.adr e), o3, some (.adr b), some (.str kd), some (.str ev), some (.str pl), some (.lst (sL ms)), some (.bl (B.has kd ev pl)), none, none, none]) ?_ fun U hU => ?_
      case' refine_2 =>
        rcases hkd with w | w
        · have hh : B.has kd ev pl = decide (pl ∈ placesB B.E.attrs ev) := by unfold Bk.has; rw [decide_eq_true w, Bool.true_and]
          walk_at "d"
          rw [decide_eq_false (kq kd w)]
          walk_at "d"
          refine ⟨e, ev, pl, B, _, rfl, g_bk.hE, hB, ?_⟩
          rw [← hh]
          exact hU _ _ ⟨rfl, rfl⟩
        · have hh : B.has kd ev pl = false := by unfold Bk.has; rw [decide_eq_false (fun z => kq kd z w), Bool.false_and]
          walk_at "d"
          rw [decide_eq_true w]
          walk_at "d"
          rw [hh] at hU
          exact hU _ _ ⟨rfl, rfl⟩
      rintro γ' _ ⟨rfl, rfl⟩
      refine dSeq_as (dSeq_as (dSeq_as ?_))
      refine dSeq_to (fun γ' μ'' => μ' = μ'' ∧ ∃ d10 o12, γ' = [some (.fro (ns.map D.int)), some (.adr tp), some (.adr e), o3, some (.adr b), some (.str kd), some (.str ev), some (.str pl), some (.lst (sL ms)), some (.bl (B.has kd ev pl)), some d10, some (.bl (B.has kd ev pl && ms.all (B.may ev))), o12] ∧
        ((B.has kd ev pl = false ∧ d10 = .non) ∨ (B.has kd ev pl = true ∧ ∃ ys, d10 = .lst (sL ys) ∧ SetOf ys (· ∈ f kd ev pl) ∧ ∀ z ∈ ys, PyData.strOk z = true))) ?_ fun U hU => ?_
      case' refine_2 =>
        cases hh : B.has kd ev pl with
        | false =>
          rw [hh] at hU
          have fn : ∀ o12, U [some (.fro (ns.map D.int)), some (.adr tp), some (.adr e), o3, some (.adr b), some (.str kd), some (.str ev), some (.str pl), some (.lst (sL ms)), some (.bl false), some .non, some (.bl false), o12] μ' := fun o12 => hU _ _ ⟨rfl, _, _, rfl, .inl ⟨rfl, rfl⟩⟩
          walk_at "d"
          refine ⟨b, r2, B, tab2, kd, ev, pl, g kd ev pl, rfl, g_mk, (hg kd ev pl).2, by have := gl kd ev pl; omega, fun w => (by rw [hh] at w; cases w), fun _ => ?_⟩
          walk_at "d"
          refine oIsNot_non ?_
          walk_at "d"
          refine ite_d (fun q1 => ?_) fun q1 => ?_
          · walk_at "d"
            refine ⟨e, B, _, rfl, g_bk.hE, hm4, r3, ?_⟩
            walk_at "d"
            refine ⟨_, ms, _, rfl, rfl, by omega, ?_⟩
            walk_at "d"
            cases q2 : ms.any fun z => decide (z ∈ B.marks.filter B.way) with
            | false =>
              walk_at "d"
              exact fn _
            | true =>
              walk_at "d"
              exact fn _
          · walk_at "d"
            exact fn _
        | true =>
          rw [hh, Bool.true_and] at hU
          walk_at "d"
          refine ⟨b, r2, B, tab2, kd, ev, pl, g kd ev pl, rfl, g_mk, (hg kd ev pl).2, by have := gl kd ev pl; omega, fun _ ys hS => ?_, fun w => by rw [hh] at w; cases w⟩
          walk_at "d"
          refine ⟨_, dget_adr g_bk.hE bval.2.2.2.1, ?_⟩
          refine ⟨isDct_T g_bk.hR, ?_⟩
          walk_at "d"
          refine ⟨sz_of (by show 3 ≤ _; decide), ?_⟩
          walk_at "d"
          refine ⟨sz_of (by decide), _, dT_getD g_bk.hR, ?_⟩
          rw [hf kd ev pl]
          walk_at "d"
          have fl := (hl.len hB (hf kd ev pl)).1
          refine alph (by omega) fun ya hSa => ?_
          have hSy : SetOf ys (· ∈ f kd ev pl) := hS.to fun z => (hg kd ev pl).1.2 z
          have yok : ∀ z ∈ ys, PyData.strOk z = true := names_of (q := fun z => PyData.strOk z = true) hSy (fok kd ev pl)
          have eya := setOf_one hSy hSa fun _ => Iff.rfl
          refine ne_same eya (by rw [← eya]; exact yok) ?_
          walk_at "d"
          have fn : ∀ o12, U [some (.fro (ns.map D.int)), some (.adr tp), some (.adr e), o3, some (.adr b), some (.str kd), some (.str ev), some (.str pl), some (.lst (sL ms)), some (.bl true), some (.lst (sL ys)), some (.bl (ms.all (B.may ev))), o12] μ' := fun o12 => hU _ _ ⟨rfl, _, _, rfl, .inr ⟨rfl, ys, rfl, hSy, yok⟩⟩
          refine lc_filter (xs := ms) D.str D.str (fun z => !decide (z ∈ B.marks)) (sz_of (by omega)) trivial (fun z _ V hV => ?_) ?_
          · walk_at "d"
            refine ⟨_, dget_adr g_bk.hE bval.2.2.1, ?_⟩
            refine oNotIn_strs rfl ?_
            walk_at "d"
            refine ite_nd (fun q => ?_) fun q => ?_
            · walk_at "d"
              rw [if_pos (by rw [decide_eq_false q]; rfl)] at hV; exact hV
            · rw [if_neg (by rw [decide_eq_true q]; simp)] at hV; exact hV
          · walk_at "d"
            have e1 : decide ((((ms.filter fun z => !decide (z ∈ B.marks)).map D.str).length : Int) = 0) = ms.all fun z => decide (z ∈ B.marks) := by
              rw [List.length_map]
              cases q : ms.all fun z => decide (z ∈ B.marks) with
              | true =>
                have : ms.filter (fun z => !decide (z ∈ B.marks)) = [] := List.filter_eq_nil_iff.mpr fun z hz w => by
                  have := List.all_eq_true.mp q z hz
                  rw [this] at w; cases w
                rw [this]; rfl
              | false =>
                obtain ⟨z, hz, w⟩ := List.all_eq_false.mp q
                have : z ∈ ms.filter fun z => !decide (z ∈ B.marks) := List.mem_filter.mpr ⟨hz, by simpa using w⟩
                have := List.length_pos_of_mem this
                exact decide_eq_false (by omega)
            rw [e1]
            refine ite_d (fun q1 => ?_) fun q1 => ?_
            · walk_at "d"
              refine ⟨e, B, _, rfl, g_bk.hE, hm4, r3, ?_⟩
              walk_at "d"
              refine ⟨_, ms, _, rfl, rfl, by omega, ?_⟩
              walk_at "d"
              cases q2 : ms.any fun z => decide (z ∈ B.marks.filter B.way) with
              | false =>
                have e2 : (ms.all fun z => decide (z ∈ B.marks)) = ms.all (B.may ev) := by
                  refine all_congr fun z hz => ?_
                  have := List.any_eq_false.mp q2 z hz
                  unfold Bk.may
                  rw [decide_eq_true q1, Bool.true_and]
                  by_cases w : z ∈ B.marks
                  · have w2 : B.way z = false := Bool.eq_false_iff.mpr fun w2 => this (decide_eq_true (List.mem_filter.mpr ⟨w, w2⟩))
                    rw [w2]; simp
                  · rw [decide_eq_false w]; rfl
                rw [e2]
                walk_at "d"
                exact fn _
              | true =>
                obtain ⟨z, hz, w⟩ := List.any_eq_true.mp q2
                have w := (List.mem_filter.mp (of_decide_eq_true w)).2
                have e2 : ms.all (B.may ev) = false := Bool.eq_false_iff.mpr fun w2 => by
                  have := List.all_eq_true.mp w2 z hz
                  unfold Bk.may at this
                  rw [decide_eq_true q1, w] at this
                  simp at this
                walk_at "d"
                rw [e2] at fn
                exact fn _
            · have e2 : (ms.all fun z => decide (z ∈ B.marks)) = ms.all (B.may ev) := by
                refine all_congr fun z hz => ?_
                unfold Bk.may
                rw [decide_eq_false q1]; simp
              rw [e2]
              exact fn _
      rintro γ' _ ⟨rfl, d10, o12, rfl, hd⟩
      refine dSeq_as ?_
      refine dSeq_to (fun γ' μ' => ∃ o9 d10 o11 o12 d8, ∃ tabL tabP : Rt, ∃ f g : Str → Str → Str → List Str, γ' = [some (.fro (ns.map D.int)), some (.adr tp), some (.adr e), o3, some (.adr b), some (.str kd), some (.str ev), some (.str pl), some d8, o9, some d10, o11, o12] ∧ BkAt μ' e r B tabL ∧ MadeAt a μ' b r2 B tabP ∧ (∀ k e p, LHolds tabL k e p (f k e p)) ∧ (∀ k e p, SetOf (g k e p) (· ∈ f k e p) ∧ Holds tabP k e p (g k e p)) ∧ (g kd ev pl).length ≤ 5 ∧
        ((B.has kd ev pl = false ∧ d10 = .non) ∨ (B.has kd ev pl = true ∧ ∃ ys, d10 = .lst (sL ys) ∧ SetOf ys (· ∈ f kd ev pl) ∧ ∀ z ∈ ys, PyData.strOk z = true))) ?_ fun U hU => ?_
      · clear hd g_bk g_mk gl fok hf hg f g
        rintro γ' μ' ⟨o9, d10, o11, o12, d8, tabL, tabP, f, g, rfl, g_bk, g_mk, hf, hg, gl, hd⟩
        have fin0 : ∀ Ψ : KD, Ψ (.lst ((atomS B f).map fun a => .tup (sL a))) μ' → w_Book_atoms a [.adr b] μ' Ξ Ψ := fun Ψ hΨ => by
          refine ⟨.adr b, B, .adr r2, tabP, g, rfl, ins_adr g_mk.hB, g_mk.tab, hk, ha, hm4, ?_, fun k e p _ => (hg k e p).2, ?_⟩
          · intro z; rw [z] at a1; simp at a1
          rw [atomsB_congr (f := g) (g := f) fun k e p z => (hg k e p).1.2 z, atomS_D]
          exact hΨ
        have fin1 : ∀ Ψ : KD, Ψ (.lst ((atomS B f).map fun a => .tup (sL a))) μ' → w_law_atoms a [.adr e] μ' Ξ Ψ := fun Ψ hΨ => by
          refine ⟨e, r, B, tabL, f, rfl, g_bk, hB, fun k e p _ => hf k e p, ?_⟩
          rw [atomS_D]
          exact hΨ
        walk_at "d"
        refine ⟨b, r2, B, tabP, kd, ev, pl, g kd ev pl, rfl, g_mk, (hg kd ev pl).2, by omega, fun w ys hS => ?_, fun w => ?_⟩
        · rcases hd with ⟨w2, _⟩ | ⟨_, yo, rfl, hSo, hok⟩
          · rw [w] at w2; cases w2
          walk_at "d"
          refine eqL_same (setOf_one hS hSo fun z => (hg kd ev pl).1.2 z) hok ?_
          walk_at "d"
          refine ⟨_, ins_adr g_mk.hB, rfl, ?_⟩
          walk_at "d"
          refine fin0 _ ?_
          walk_at "d"
          refine fin1 _ ?_
          exact oEq_tups (atomS_ok hB f) (h _)
        · rcases hd with ⟨_, rfl⟩ | ⟨w2, _⟩
          · walk_at "d"
            refine oEq_non ?_
            walk_at "d"
            refine ⟨_, ins_adr g_mk.hB, rfl, ?_⟩
            walk_at "d"
            refine fin0 _ ?_
            walk_at "d"
            refine fin1 _ ?_
            exact oEq_tups (atomS_ok hB f) (h _)
          · rw [w] at w2; cases w2
      · walk_at "d"
        refine ⟨b, r2, B, tab2, kd, ev, pl, ms, rfl, g_mk, r3, by omega, by omega, fun w ys hS => ?_, fun w => ?_⟩
        · have hh : B.has kd ev pl = true := by cases q : B.has kd ev pl with
            | true => rfl
            | false => rw [q] at w; cases w
          rw [w]
          walk_at "d"
          refine ite_nd (fun q => absurd rfl q) fun _ => ?_
          walk_at "d"
          have g_bk2 : BkAt (updM μ' r2 (.dT (putKD tab2 (key3 kd ev pl) (.tup (sL ys))))) e r B tab := ⟨by rw [updM_ne r2e.symm]; exact g_bk.hE, by rw [updM_ne r2r.symm]; exact g_bk.hR⟩
          refine ⟨_, dget_adr g_bk2.hE bval.2.2.2.1, ?_⟩
          walk_at "d"
          refine ⟨sz_of (by show 3 ≤ _; decide), ?_⟩
          refine ⟨r, rfl, .inr ⟨tab, _, g_bk2.hR, rfl, sz_lt (by omega), ?_⟩⟩
          walk_at "d"
          refine alph (by omega) fun yo hSo => ?_
          let f2 : Str → Str → Str → List Str := fun k' e' p' => if key3 k' e' p' = key3 kd ev pl then ms else f k' e' p'
          let g2 : Str → Str → Str → List Str := fun k' e' p' => if key3 k' e' p' = key3 kd ev pl then ys else g k' e' p'
          have yl := hS.len (ys := ms) (fun z h => h)
          refine hU _ _ ⟨_, _, _, _, _, _, _, f2, g2, rfl, ⟨by rw [updM_ne re.symm]; exact g_bk2.hE, updM_same⟩, ⟨by rw [updM_ne br, updM_ne br2]; exact g_mk.hB, by rw [updM_ne r2r, updM_same]⟩, fun k' e' p' => ?_, fun k' e' p' => ?_, ?_, .inr ⟨hh, yo, rfl, ?_, names_of (q := fun z => PyData.strOk z = true) hSo hms⟩⟩
          · unfold LHolds
            rw [valD_put]
            by_cases q : key3 k' e' p' = key3 kd ev pl
            · rw [if_pos q]; simp only [f2, if_pos q]; rfl
            · rw [if_neg q]; simp only [f2, if_neg q]; exact hf k' e' p'
          · unfold Holds
            rw [valD_put]
            by_cases q : key3 k' e' p' = key3 kd ev pl
            · rw [if_pos q]; simp only [f2, g2, if_pos q]; exact ⟨hS, rfl⟩
            · rw [if_neg q]; simp only [f2, g2, if_neg q]; exact hg k' e' p'
          · show (if key3 kd ev pl = key3 kd ev pl then ys else g kd ev pl).length ≤ 5
            rw [if_pos rfl]; omega
          · show SetOf yo (· ∈ if key3 kd ev pl = key3 kd ev pl then ms else f kd ev pl)
            rw [if_pos rfl]; exact hSo
        · rw [w]
          walk_at "d"
          refine ite_nd (fun q => absurd rfl q) fun _ => ?_
          walk_at "d"
          exact hU _ _ ⟨_, _, _, _, _, tab, tab2, f, g, rfl, g_bk, g_mk, hf, hg, by have := gl kd ev pl; omega, hd⟩
    · have hK2 := hK
      obtain ⟨⟨m', t1, t2⟩, _⟩ := hK2
      walk_at "d"
      refine ⟨tp, m', 3, rfl, t1, t2, by omega, by omega, fun c m2 c0 c1 hm2 => ?_⟩
      have hK := Kt m2 hm2 hK
      generalize updM μ' tp m2 = μ9 at hK ⊢
      walk_at "d"
      refine ite_d (fun _ => ?_) fun _ => ?_
      · have hK2 := hK
        obtain ⟨⟨m', t1, t2⟩, w1, _⟩ := hK2
        walk_at "d"
        refine ⟨_, dget_adr w1.hE bval.1, ?_⟩
        walk_at "d"
        refine one_str t1 t2 k1 (by omega) fun k2 m3 hk2 hm3 => ?_
        have hK := Kt m3 hm3 hK
        generalize updM μ9 tp m3 = μ10 at hK ⊢
        have hK2 := hK
        obtain ⟨⟨m', t1, t2⟩, w1, _⟩ := hK2
        walk_at "d"
        refine ⟨sz_of (by decide), ?_⟩
        walk_at "d"
        refine one_str (xs := ["up", "up", "up", "parent"]) t1 t2 (by simp) (by simp) fun p2 m4 hp2 hm4' => ?_
        have hK := Kt m4 hm4' hK
        generalize updM μ10 tp m4 = μ11 at hK ⊢
        have hK2 := hK
        obtain ⟨⟨m', t1, t2⟩, w1, _⟩ := hK2
        walk_at "d"
        refine ⟨_, dget_adr w1.hE bval.2.2.1, ?_⟩
        walk_at "d"
        refine one_str t1 t2 m1 (by omega) fun z m6 hz2 hm6 => ?_
        have hK := Kt m6 hm6 hK
        generalize updM μ11 tp m6 = μ12 at hK ⊢
        obtain ⟨_, w1, w2, _, _⟩ := hK
        walk_at "d"
        refine ⟨sz_of (by show 1 ≤ _; decide), fun q2 hq2 => ?_⟩
        refine Gh.slot 8 rfl updM_same ?_
        rw [delM_updM hq2]
        exact hU _ _ ⟨k2, "fence", p2, [z], rfl, w1, w2, by simp, by simpa using mark_ok z (hB.msub z hz2), .inl hk2⟩
      · obtain ⟨_, w1, w2, w3, w4⟩ := hK
        refine Gh.slot 8 rfl w3 ?_
        exact hU _ _ ⟨kd, ev, pl, ms, rfl, ⟨by rw [delM_ne qe.symm]; exact w1.hE, by rw [delM_ne qr.symm]; exact w1.hR⟩, ⟨by rw [delM_ne qb.symm]; exact w2.hB, by rw [delM_ne qr2.symm]; exact w2.hR⟩, w4, hms, hkd⟩
  · have hK2 := K0
    obtain ⟨⟨m', t1, t2⟩, _⟩ := hK2
    walk_at "d"
    refine ⟨tp, m', 3, rfl, t1, t2, by omega, by omega, fun c m2 c0 c1 hm2 => ?_⟩
    have hK := Kt m2 hm2 K0
    generalize updM μ8 tp m2 = μ9 at hK ⊢
    walk_at "d"
    refine ite_d (fun _ => ?_) fun _ => ?_
    · have hK2 := hK
      obtain ⟨⟨m', t1, t2⟩, _, _, w3, _⟩ := hK2
      walk_at "d"
      refine ⟨isLis_adr w3, ?_⟩
      walk_at "d"
      refine ⟨sz_of (by decide), ?_⟩
      walk_at "d"
      refine one_str (xs := ["aa", "nn", "zz"]) t1 t2 (by simp) (by simp) fun z m6 hz2 hm6 => ?_
      have hK := Kt m6 hm6 hK
      generalize updM μ9 tp m6 = μ10 at hK ⊢
      have hK2 := hK
      obtain ⟨_, _, _, w3, w4⟩ := hK2
      walk_at "d"
      refine mAppend_i w3 (sz_lt (by rw [List.length_map]; omega)) ?_
      refine hU _ _ ⟨ms ++ [z], rfl, by rw [← sL_snoc]; exact Kq (ms ++ [z]) (by rw [List.length_append]; simp; omega) hK, fun u hu => ?_⟩
      rcases List.mem_append.mp hu with hu | hu
      · exact hms u hu
      · rw [List.mem_singleton.mp hu]
        exact okq z (by simp at hz2 ⊢; rcases hz2 with rfl | rfl | rfl <;> simp)
    · exact hU _ _ ⟨ms, rfl, hK, hms⟩
theorem ok_law {P : Program} {w : World} {K : PySem.W.Frag} {mg : Str → Option Value} {base : Heap} {a : Adr} (T : Txt K mg a) (G_law_tape : FnD P w K mg base 1 a.f_law_tape (w_law_tape a)) (G_law_engine : FnD P w K mg base 4 a.f_law_engine (w_law_engine a)) (G_law_any_reads : FnD P w K mg base 4 a.f_law_any_reads (w_law_any_reads a)) (G_law_more : FnD P w K mg base 4 a.f_law_more (w_law_more a)) (G_law_pick : FnD P w K mg base 1 a.f_law_pick (w_law_pick a)) (G_law_fence : FnD P w K mg base 3 a.f_law_fence (w_law_fence a)) (G_law_made : FnD P w K mg base 6 a.f_law_made (w_law_made a)) (G_law_told_sets_stay : FnD P w K mg base 5 a.f_law_told_sets_stay (w_law_told_sets_stay a)) (G_law_one : FnD P w K mg base 2 a.f_law_one (w_law_one a)) (G_law_has_rule : FnD P w K mg base 2 a.f_law_has_rule (w_law_has_rule a)) (G_law_read : FnD P w K mg base 5 a.f_law_read (w_law_read a)) (G_law_alphabet : FnD P w K mg base 2 a.f_law_alphabet (w_law_alphabet a)) (G_law_meets : FnD P w K mg base 1 a.f_law_meets (w_law_meets a)) (G_law_ways : FnD P w K mg base 1 a.f_law_ways (w_law_ways a)) (G_law_is_set : FnD P w K mg base 4 a.f_law_is_set (w_law_is_set a)) (G_Book_atoms : FnD P w K mg base 2 a.f_Book_atoms (w_Book_atoms a)) (G_law_atoms : FnD P w K mg base 2 a.f_law_atoms (w_law_atoms a)) : FnD P w K mg base 7 a.f_law (w_law a) := by
  obtain ⟨fd, F⟩ := T.F_law.ex
  exact fn_D F (F.binds (ps := ["script"]) fun _ _ _ _ _ _ us hl => match us, hl with | [_], _ => rfl) sc_law (fun ds μ Ξ Φ h => len_law h) fun cdv A outer s H E hr => ⟨B_law a, D_law T G_law_tape G_law_engine G_law_any_reads G_law_more G_law_pick G_law_fence G_law_made G_law_told_sets_stay G_law_one G_law_has_rule G_law_read G_law_alphabet G_law_meets G_law_ways G_law_is_set G_Book_atoms G_law_atoms cdv A outer s H E hr, fun ds μ Ξ Φ h => read_law ds μ Ξ Φ h⟩

theorem sc_Marks_d_iter_i : FnScope ["self"] ["self"] (defScope s_Marks_d_iter) := ⟨rfl, rfl, rfl, by decide +kernel, rfl, by decide +kernel, by decide +kernel⟩
theorem GI_Marks {P : Program} {w : World} {K : PySem.W.Frag} {mg : Str → Option Value} {base : Heap} {a : Adr} (T : Txt K mg a) : FnR P w K mg base (L2.CX P w) 1 a.f_Marks_d_iter (spIterF K a.C_Marks "names") := by
  obtain ⟨fd, F⟩ := T.F_Marks_d_iter.ex
  exact fn_iterF (p1 := _) F (F.binds (ps := ["self"]) fun _ _ _ _ _ _ us hl => match us, hl with | [_], _ => rfl) sc_Marks_d_iter_i T.o_Marks.cl T.n_Marks_names T.z_iter
theorem sc_Marks_d_len_i : FnScope ["self"] ["self"] (defScope s_Marks_d_len) := ⟨rfl, rfl, rfl, by decide +kernel, rfl, by decide +kernel, by decide +kernel⟩
theorem GL_Marks {P : Program} {w : World} {K : PySem.W.Frag} {mg : Str → Option Value} {base : Heap} {a : Adr} (T : Txt K mg a) : FnR P w K mg base (L2.CX P w) 1 a.f_Marks_d_len (spLenF K a.C_Marks "names") := by
  obtain ⟨fd, F⟩ := T.F_Marks_d_len.ex
  exact fn_lenF (p1 := _) F (F.binds (ps := ["self"]) fun _ _ _ _ _ _ us hl => match us, hl with | [_], _ => rfl) sc_Marks_d_len_i T.o_Marks.cl T.n_Marks_names T.z_len
theorem all_mk {l : PySem.W.OpenLaw} {w : World} {K : PySem.W.Frag} {h : Heap} {mg : Str → Option Value} {fa : Addr} (X : K.In h) (G : h.Ns mainGlobals mg) (hfa : mg "law" = some (.ref fa))
    {C_BadBook C_BadEngine C_Book C_Engine C_Marks f_law_tape f_law_pick f_law_some f_law_one f_law_kind_names f_law_mark_names f_law_turn f_law_in_time f_law_sources f_is_name f_are_distinct f_are_names f_split_source f_Engine_checked f_Engine_d_init f_Marks_d_init f_Marks_d_or f_Marks_d_ior f_Marks_d_len f_law_distinct f_law_alphabet f_Book_d_init f_Book_places f_Book_has_rule f_Book_is_way f_Book_enters f_Book_through f_Book_d_getitem f_Book_d_setitem f_Book_atoms f_law_engine f_law_any_reads f_law_places f_law_any_atom f_law_add f_law_more f_law_ways f_law_fence f_law_made_engine f_law_made f_law_rule f_law_meets f_law_atoms f_law_has_rule f_law_read f_law_is_set f_law_told_sets_stay f_law f_Marks_d_iter : Addr}
    {oc_law_tape kV_law_tape dc_law_tape pm_law_tape cd_law_tape ct_law_tape oc_law_pick kV_law_pick dc_law_pick pm_law_pick cd_law_pick ct_law_pick oc_law_some kV_law_some dc_law_some pm_law_some cd_law_some ct_law_some oc_law_one kV_law_one dc_law_one pm_law_one cd_law_one ct_law_one oc_law_kind_names kV_law_kind_names dc_law_kind_names pm_law_kind_names cd_law_kind_names ct_law_kind_names oc_law_mark_names kV_law_mark_names dc_law_mark_names pm_law_mark_names cd_law_mark_names ct_law_mark_names oc_law_turn kV_law_turn dc_law_turn pm_law_turn cd_law_turn ct_law_turn oc_law_in_time kV_law_in_time dc_law_in_time pm_law_in_time cd_law_in_time ct_law_in_time oc_law_sources kV_law_sources dc_law_sources pm_law_sources cd_law_sources ct_law_sources oc_is_name kV_is_name dc_is_name pm_is_name cd_is_name ct_is_name oc_are_distinct kV_are_distinct dc_are_distinct pm_are_distinct cd_are_distinct ct_are_distinct oc_are_names kV_are_names dc_are_names pm_are_names cd_are_names ct_are_names oc_split_source kV_split_source dc_split_source pm_split_source cd_split_source ct_split_source oc_Engine_checked kV_Engine_checked dc_Engine_checked pm_Engine_checked cd_Engine_checked ct_Engine_checked oc_Engine_d_init kV_Engine_d_init dc_Engine_d_init pm_Engine_d_init cd_Engine_d_init ct_Engine_d_init oc_Marks_d_init kV_Marks_d_init dc_Marks_d_init pm_Marks_d_init cd_Marks_d_init ct_Marks_d_init oc_Marks_d_or kV_Marks_d_or dc_Marks_d_or pm_Marks_d_or cd_Marks_d_or ct_Marks_d_or oc_Marks_d_ior kV_Marks_d_ior dc_Marks_d_ior pm_Marks_d_ior cd_Marks_d_ior ct_Marks_d_ior oc_Marks_d_len kV_Marks_d_len dc_Marks_d_len pm_Marks_d_len cd_Marks_d_len ct_Marks_d_len oc_law_distinct kV_law_distinct dc_law_distinct pm_law_distinct cd_law_distinct ct_law_distinct oc_law_alphabet kV_law_alphabet dc_law_alphabet pm_law_alphabet cd_law_alphabet ct_law_alphabet oc_Book_d_init kV_Book_d_init dc_Book_d_init pm_Book_d_init cd_Book_d_init ct_Book_d_init oc_Book_places kV_Book_places dc_Book_places pm_Book_places cd_Book_places ct_Book_places oc_Book_has_rule kV_Book_has_rule dc_Book_has_rule pm_Book_has_rule cd_Book_has_rule ct_Book_has_rule oc_Book_is_way kV_Book_is_way dc_Book_is_way pm_Book_is_way cd_Book_is_way ct_Book_is_way oc_Book_enters kV_Book_enters dc_Book_enters pm_Book_enters cd_Book_enters ct_Book_enters oc_Book_through kV_Book_through dc_Book_through pm_Book_through cd_Book_through ct_Book_through oc_Book_d_getitem kV_Book_d_getitem dc_Book_d_getitem pm_Book_d_getitem cd_Book_d_getitem ct_Book_d_getitem oc_Book_d_setitem kV_Book_d_setitem dc_Book_d_setitem pm_Book_d_setitem cd_Book_d_setitem ct_Book_d_setitem oc_Book_atoms kV_Book_atoms dc_Book_atoms pm_Book_atoms cd_Book_atoms ct_Book_atoms oc_law_engine kV_law_engine dc_law_engine pm_law_engine cd_law_engine ct_law_engine oc_law_any_reads kV_law_any_reads dc_law_any_reads pm_law_any_reads cd_law_any_reads ct_law_any_reads oc_law_places kV_law_places dc_law_places pm_law_places cd_law_places ct_law_places oc_law_any_atom kV_law_any_atom dc_law_any_atom pm_law_any_atom cd_law_any_atom ct_law_any_atom oc_law_add kV_law_add dc_law_add pm_law_add cd_law_add ct_law_add oc_law_more kV_law_more dc_law_more pm_law_more cd_law_more ct_law_more oc_law_ways kV_law_ways dc_law_ways pm_law_ways cd_law_ways ct_law_ways oc_law_fence kV_law_fence dc_law_fence pm_law_fence cd_law_fence ct_law_fence oc_law_made_engine kV_law_made_engine dc_law_made_engine pm_law_made_engine cd_law_made_engine ct_law_made_engine oc_law_made kV_law_made dc_law_made pm_law_made cd_law_made ct_law_made oc_law_rule kV_law_rule dc_law_rule pm_law_rule cd_law_rule ct_law_rule oc_law_meets kV_law_meets dc_law_meets pm_law_meets cd_law_meets ct_law_meets oc_law_atoms kV_law_atoms dc_law_atoms pm_law_atoms cd_law_atoms ct_law_atoms oc_law_has_rule kV_law_has_rule dc_law_has_rule pm_law_has_rule cd_law_has_rule ct_law_has_rule oc_law_read kV_law_read dc_law_read pm_law_read cd_law_read ct_law_read oc_law_is_set kV_law_is_set dc_law_is_set pm_law_is_set cd_law_is_set ct_law_is_set oc_law_told_sets_stay kV_law_told_sets_stay dc_law_told_sets_stay pm_law_told_sets_stay cd_law_told_sets_stay ct_law_told_sets_stay oc_law kV_law dc_law pm_law cd_law ct_law oc_Marks_d_iter kV_Marks_d_iter dc_Marks_d_iter pm_Marks_d_iter cd_Marks_d_iter ct_Marks_d_iter : Value} {od_law_tape an_law_tape od_law_pick an_law_pick od_law_some an_law_some od_law_one an_law_one od_law_kind_names an_law_kind_names od_law_mark_names an_law_mark_names od_law_turn an_law_turn od_law_in_time an_law_in_time od_law_sources an_law_sources od_is_name an_is_name od_are_distinct an_are_distinct od_are_names an_are_names od_split_source an_split_source od_Engine_checked an_Engine_checked od_Engine_d_init an_Engine_d_init od_Marks_d_init an_Marks_d_init od_Marks_d_or an_Marks_d_or od_Marks_d_ior an_Marks_d_ior od_Marks_d_len an_Marks_d_len od_law_distinct an_law_distinct od_law_alphabet an_law_alphabet od_Book_d_init an_Book_d_init od_Book_places an_Book_places od_Book_has_rule an_Book_has_rule od_Book_is_way an_Book_is_way od_Book_enters an_Book_enters od_Book_through an_Book_through od_Book_d_getitem an_Book_d_getitem od_Book_d_setitem an_Book_d_setitem od_Book_atoms an_Book_atoms od_law_engine an_law_engine od_law_any_reads an_law_any_reads od_law_places an_law_places od_law_any_atom an_law_any_atom od_law_add an_law_add od_law_more an_law_more od_law_ways an_law_ways od_law_fence an_law_fence od_law_made_engine an_law_made_engine od_law_made an_law_made od_law_rule an_law_rule od_law_meets an_law_meets od_law_atoms an_law_atoms od_law_has_rule an_law_has_rule od_law_read an_law_read od_law_is_set an_law_is_set od_law_told_sets_stay an_law_told_sets_stay od_law an_law od_Marks_d_iter an_Marks_d_iter : Option Addr} {sl_law_tape sl_law_pick sl_law_some sl_law_one sl_law_kind_names sl_law_mark_names sl_law_turn sl_law_in_time sl_law_sources sl_is_name sl_are_distinct sl_are_names sl_split_source sl_Engine_checked sl_Engine_d_init sl_Marks_d_init sl_Marks_d_or sl_Marks_d_ior sl_Marks_d_len sl_law_distinct sl_law_alphabet sl_Book_d_init sl_Book_places sl_Book_has_rule sl_Book_is_way sl_Book_enters sl_Book_through sl_Book_d_getitem sl_Book_d_setitem sl_Book_atoms sl_law_engine sl_law_any_reads sl_law_places sl_law_any_atom sl_law_add sl_law_more sl_law_ways sl_law_fence sl_law_made_engine sl_law_made sl_law_rule sl_law_meets sl_law_atoms sl_law_has_rule sl_law_read sl_law_is_set sl_law_told_sets_stay sl_law sl_Marks_d_iter : Array (Option Value)}
    {t_LETTERS : Tok}
    {c_CHANGE_PLACES c_EDIT_PLACES c_RELATIONS c_WORDS : Addr} {dd_CHANGE_PLACES dd_EDIT_PLACES dd_RELATIONS dd_WORDS : Option Addr} {nn_CHANGE_PLACES nn_EDIT_PLACES nn_RELATIONS nn_WORDS : Nat} {sl_CHANGE_PLACES sl_EDIT_PLACES sl_RELATIONS sl_WORDS : Array (Option Value)}
    {t_CHANGE_PLACES_0 t_CHANGE_PLACES_1 t_CHANGE_PLACES_2 t_CHANGE_PLACES_3 t_EDIT_PLACES_0 t_EDIT_PLACES_1 t_EDIT_PLACES_2 t_EDIT_PLACES_3 t_RELATIONS_0 t_RELATIONS_1 t_RELATIONS_2 t_RELATIONS_3 t_WORDS_0 t_WORDS_1 t_WORDS_2 t_WORDS_3 : Tok}
    (a_BadBook : PySem.W.nsIn K mainGlobals "BadBook" = some (some (.ref C_BadBook)))
    (x1_BadBook : PySem.W.excIn K C_BadBook [.type "ValueError", .type "Exception", .type "BaseException", .type "object"] "ValueError.__new__" = true)
    (em_BadBook : PySem.W.exmOne K (.ref C_BadBook) (.ref C_BadBook) = some true)
    (x2_BadBook : PySem.W.keepIn K (.ref C_BadBook) = true)
    (x3_BadBook : PySem.W.subIn K (.ref C_BadBook) (.type "BaseException") = some true)
    (x4_BadBook : PySem.W.typeIn K (.ref C_BadBook) = some (.type "type"))
    (a_BadEngine : PySem.W.nsIn K mainGlobals "BadEngine" = some (some (.ref C_BadEngine)))
    (x1_BadEngine : PySem.W.excIn K C_BadEngine [.type "ValueError", .type "Exception", .type "BaseException", .type "object"] "ValueError.__new__" = true)
    (x2_BadEngine : PySem.W.keepIn K (.ref C_BadEngine) = true)
    (x3_BadEngine : PySem.W.subIn K (.ref C_BadEngine) (.type "BaseException") = some true)
    (x4_BadEngine : PySem.W.typeIn K (.ref C_BadEngine) = some (.type "type"))
    (a_Book : PySem.W.nsIn K mainGlobals "Book" = some (some (.ref C_Book)))
    (pg_Book : PySem.W.plainGet K C_Book Str.empty = true)
    (hd_Book : PySem.W.hasDictIn K C_Book = true)
    (po_Book : PySem.W.plainOver K C_Book = true)
    (sa_Book : PySem.W.findIn K (.ref C_Book) "__setattr__" = some (some (.builtin "object.__setattr__")))
    (ha_Book : PySem.W.findIn K (.ref C_Book) "__class__" = some (some (.builtin "object.__class__")))
    (hm_Book : PySem.W.mroIn K C_Book (.type "object") = some true)
    (sf_Book : PySem.W.selfFirst K C_Book = true)
    (nf_Book : PySem.W.notFirst K C_Book (.ref C_Book) = true)
    (mk_Book : PySem.W.makesIn K C_Book = true)
    (kc_Book : PySem.W.keepIn K (.ref C_Book) = true)
    (a_Engine : PySem.W.nsIn K mainGlobals "Engine" = some (some (.ref C_Engine)))
    (pg_Engine : PySem.W.plainGet K C_Engine Str.empty = true)
    (hd_Engine : PySem.W.hasDictIn K C_Engine = true)
    (po_Engine : PySem.W.plainOver K C_Engine = true)
    (sa_Engine : PySem.W.findIn K (.ref C_Engine) "__setattr__" = some (some (.builtin "object.__setattr__")))
    (ha_Engine : PySem.W.findIn K (.ref C_Engine) "__class__" = some (some (.builtin "object.__class__")))
    (hm_Engine : PySem.W.mroIn K C_Engine (.type "object") = some true)
    (sf_Engine : PySem.W.selfFirst K C_Engine = true)
    (nf_Engine : PySem.W.notFirst K C_Engine (.ref C_Engine) = true)
    (mk_Engine : PySem.W.makesIn K C_Engine = true)
    (kc_Engine : PySem.W.keepIn K (.ref C_Engine) = true)
    (a_Marks : PySem.W.nsIn K mainGlobals "Marks" = some (some (.ref C_Marks)))
    (pg_Marks : PySem.W.plainGet K C_Marks Str.empty = true)
    (hd_Marks : PySem.W.hasDictIn K C_Marks = true)
    (po_Marks : PySem.W.plainOver K C_Marks = true)
    (sa_Marks : PySem.W.findIn K (.ref C_Marks) "__setattr__" = some (some (.builtin "object.__setattr__")))
    (ha_Marks : PySem.W.findIn K (.ref C_Marks) "__class__" = some (some (.builtin "object.__class__")))
    (hm_Marks : PySem.W.mroIn K C_Marks (.type "object") = some true)
    (sf_Marks : PySem.W.selfFirst K C_Marks = true)
    (nf_Marks : PySem.W.notFirst K C_Marks (.ref C_Marks) = true)
    (mk_Marks : PySem.W.makesIn K C_Marks = true)
    (kc_Marks : PySem.W.keepIn K (.ref C_Marks) = true)
    (ns_Book : PySem.W.noSeq K C_Book = true)
    (hn : PySem.W.specialIn K (.builtin "object.__class__") "__get__" = some (some (.builtin "getset_descriptor.__get__")))
    (htk : PySem.W.takesIn K (.builtin "object.__class__") = some true)
    (a_law_tape : PySem.W.nsIn K mainGlobals "_law_tape" = some (some (.ref f_law_tape)))
    (l_law_tape : K.lookup f_law_tape = some ⟨oc_law_tape, od_law_tape, .func (PySem.W.fnOf "_law_tape" "_law_tape" (defArgs s_law_tape) (defBody s_law_tape) (defScope s_law_tape) .none kV_law_tape dc_law_tape pm_law_tape an_law_tape cd_law_tape ct_law_tape), sl_law_tape⟩)
    (c_law_tape : PySem.W.codeIn K cd_law_tape "_law_tape" = true)
    (k_law_tape : PySem.W.keepIn K (.ref f_law_tape) = true)
    (a_law_pick : PySem.W.nsIn K mainGlobals "_law_pick" = some (some (.ref f_law_pick)))
    (l_law_pick : K.lookup f_law_pick = some ⟨oc_law_pick, od_law_pick, .func (PySem.W.fnOf "_law_pick" "_law_pick" (defArgs s_law_pick) (defBody s_law_pick) (defScope s_law_pick) .none kV_law_pick dc_law_pick pm_law_pick an_law_pick cd_law_pick ct_law_pick), sl_law_pick⟩)
    (c_law_pick : PySem.W.codeIn K cd_law_pick "_law_pick" = true)
    (k_law_pick : PySem.W.keepIn K (.ref f_law_pick) = true)
    (a_law_some : PySem.W.nsIn K mainGlobals "_law_some" = some (some (.ref f_law_some)))
    (l_law_some : K.lookup f_law_some = some ⟨oc_law_some, od_law_some, .func (PySem.W.fnOf "_law_some" "_law_some" (defArgs s_law_some) (defBody s_law_some) (defScope s_law_some) .none kV_law_some dc_law_some pm_law_some an_law_some cd_law_some ct_law_some), sl_law_some⟩)
    (c_law_some : PySem.W.codeIn K cd_law_some "_law_some" = true)
    (k_law_some : PySem.W.keepIn K (.ref f_law_some) = true)
    (a_law_one : PySem.W.nsIn K mainGlobals "_law_one" = some (some (.ref f_law_one)))
    (l_law_one : K.lookup f_law_one = some ⟨oc_law_one, od_law_one, .func (PySem.W.fnOf "_law_one" "_law_one" (defArgs s_law_one) (defBody s_law_one) (defScope s_law_one) .none kV_law_one dc_law_one pm_law_one an_law_one cd_law_one ct_law_one), sl_law_one⟩)
    (c_law_one : PySem.W.codeIn K cd_law_one "_law_one" = true)
    (k_law_one : PySem.W.keepIn K (.ref f_law_one) = true)
    (a_law_kind_names : PySem.W.nsIn K mainGlobals "_law_kind_names" = some (some (.ref f_law_kind_names)))
    (l_law_kind_names : K.lookup f_law_kind_names = some ⟨oc_law_kind_names, od_law_kind_names, .func (PySem.W.fnOf "_law_kind_names" "_law_kind_names" (defArgs s_law_kind_names) (defBody s_law_kind_names) (defScope s_law_kind_names) .none kV_law_kind_names dc_law_kind_names pm_law_kind_names an_law_kind_names cd_law_kind_names ct_law_kind_names), sl_law_kind_names⟩)
    (c_law_kind_names : PySem.W.codeIn K cd_law_kind_names "_law_kind_names" = true)
    (k_law_kind_names : PySem.W.keepIn K (.ref f_law_kind_names) = true)
    (a_law_mark_names : PySem.W.nsIn K mainGlobals "_law_mark_names" = some (some (.ref f_law_mark_names)))
    (l_law_mark_names : K.lookup f_law_mark_names = some ⟨oc_law_mark_names, od_law_mark_names, .func (PySem.W.fnOf "_law_mark_names" "_law_mark_names" (defArgs s_law_mark_names) (defBody s_law_mark_names) (defScope s_law_mark_names) .none kV_law_mark_names dc_law_mark_names pm_law_mark_names an_law_mark_names cd_law_mark_names ct_law_mark_names), sl_law_mark_names⟩)
    (c_law_mark_names : PySem.W.codeIn K cd_law_mark_names "_law_mark_names" = true)
    (k_law_mark_names : PySem.W.keepIn K (.ref f_law_mark_names) = true)
    (a_law_turn : PySem.W.nsIn K mainGlobals "_law_turn" = some (some (.ref f_law_turn)))
    (l_law_turn : K.lookup f_law_turn = some ⟨oc_law_turn, od_law_turn, .func (PySem.W.fnOf "_law_turn" "_law_turn" (defArgs s_law_turn) (defBody s_law_turn) (defScope s_law_turn) .none kV_law_turn dc_law_turn pm_law_turn an_law_turn cd_law_turn ct_law_turn), sl_law_turn⟩)
    (c_law_turn : PySem.W.codeIn K cd_law_turn "_law_turn" = true)
    (k_law_turn : PySem.W.keepIn K (.ref f_law_turn) = true)
    (a_law_in_time : PySem.W.nsIn K mainGlobals "_law_in_time" = some (some (.ref f_law_in_time)))
    (l_law_in_time : K.lookup f_law_in_time = some ⟨oc_law_in_time, od_law_in_time, .func (PySem.W.fnOf "_law_in_time" "_law_in_time" (defArgs s_law_in_time) (defBody s_law_in_time) (defScope s_law_in_time) .none kV_law_in_time dc_law_in_time pm_law_in_time an_law_in_time cd_law_in_time ct_law_in_time), sl_law_in_time⟩)
    (c_law_in_time : PySem.W.codeIn K cd_law_in_time "_law_in_time" = true)
    (k_law_in_time : PySem.W.keepIn K (.ref f_law_in_time) = true)
    (a_law_sources : PySem.W.nsIn K mainGlobals "_law_sources" = some (some (.ref f_law_sources)))
    (l_law_sources : K.lookup f_law_sources = some ⟨oc_law_sources, od_law_sources, .func (PySem.W.fnOf "_law_sources" "_law_sources" (defArgs s_law_sources) (defBody s_law_sources) (defScope s_law_sources) .none kV_law_sources dc_law_sources pm_law_sources an_law_sources cd_law_sources ct_law_sources), sl_law_sources⟩)
    (c_law_sources : PySem.W.codeIn K cd_law_sources "_law_sources" = true)
    (k_law_sources : PySem.W.keepIn K (.ref f_law_sources) = true)
    (a_is_name : PySem.W.nsIn K mainGlobals "is_name" = some (some (.ref f_is_name)))
    (l_is_name : K.lookup f_is_name = some ⟨oc_is_name, od_is_name, .func (PySem.W.fnOf "is_name" "is_name" (defArgs s_is_name) (defBody s_is_name) (defScope s_is_name) .none kV_is_name dc_is_name pm_is_name an_is_name cd_is_name ct_is_name), sl_is_name⟩)
    (c_is_name : PySem.W.codeIn K cd_is_name "is_name" = true)
    (k_is_name : PySem.W.keepIn K (.ref f_is_name) = true)
    (a_are_distinct : PySem.W.nsIn K mainGlobals "are_distinct" = some (some (.ref f_are_distinct)))
    (l_are_distinct : K.lookup f_are_distinct = some ⟨oc_are_distinct, od_are_distinct, .func (PySem.W.fnOf "are_distinct" "are_distinct" (defArgs s_are_distinct) (defBody s_are_distinct) (defScope s_are_distinct) .none kV_are_distinct dc_are_distinct pm_are_distinct an_are_distinct cd_are_distinct ct_are_distinct), sl_are_distinct⟩)
    (c_are_distinct : PySem.W.codeIn K cd_are_distinct "are_distinct" = true)
    (k_are_distinct : PySem.W.keepIn K (.ref f_are_distinct) = true)
    (a_are_names : PySem.W.nsIn K mainGlobals "are_names" = some (some (.ref f_are_names)))
    (l_are_names : K.lookup f_are_names = some ⟨oc_are_names, od_are_names, .func (PySem.W.fnOf "are_names" "are_names" (defArgs s_are_names) (defBody s_are_names) (defScope s_are_names) .none kV_are_names dc_are_names pm_are_names an_are_names cd_are_names ct_are_names), sl_are_names⟩)
    (c_are_names : PySem.W.codeIn K cd_are_names "are_names" = true)
    (k_are_names : PySem.W.keepIn K (.ref f_are_names) = true)
    (a_split_source : PySem.W.nsIn K mainGlobals "split_source" = some (some (.ref f_split_source)))
    (l_split_source : K.lookup f_split_source = some ⟨oc_split_source, od_split_source, .func (PySem.W.fnOf "split_source" "split_source" (defArgs s_split_source) (defBody s_split_source) (defScope s_split_source) .none kV_split_source dc_split_source pm_split_source an_split_source cd_split_source ct_split_source), sl_split_source⟩)
    (c_split_source : PySem.W.codeIn K cd_split_source "split_source" = true)
    (k_split_source : PySem.W.keepIn K (.ref f_split_source) = true)
    (a_Engine_checked : PySem.W.findIn K (.ref C_Engine) "checked" = some (some (.ref f_Engine_checked)))
    (i_Engine_checked : PySem.W.isFn K (.ref f_Engine_checked) = true)
    (l_Engine_checked : K.lookup f_Engine_checked = some ⟨oc_Engine_checked, od_Engine_checked, .func (PySem.W.fnOf "checked" "Engine.checked" (defArgs s_Engine_checked) (defBody s_Engine_checked) (defScope s_Engine_checked) .none kV_Engine_checked dc_Engine_checked pm_Engine_checked an_Engine_checked cd_Engine_checked ct_Engine_checked), sl_Engine_checked⟩)
    (c_Engine_checked : PySem.W.codeIn K cd_Engine_checked "Engine.checked" = true)
    (k_Engine_checked : PySem.W.keepIn K (.ref f_Engine_checked) = true)
    (a_Engine_d_init : PySem.W.findIn K (.ref C_Engine) "__init__" = some (some (.ref f_Engine_d_init)))
    (i_Engine_d_init : PySem.W.isFn K (.ref f_Engine_d_init) = true)
    (l_Engine_d_init : K.lookup f_Engine_d_init = some ⟨oc_Engine_d_init, od_Engine_d_init, .func (PySem.W.fnOf "__init__" "Engine.__init__" (defArgs s_Engine_d_init) (defBody s_Engine_d_init) (defScope s_Engine_d_init) .none kV_Engine_d_init dc_Engine_d_init pm_Engine_d_init an_Engine_d_init cd_Engine_d_init ct_Engine_d_init), sl_Engine_d_init⟩)
    (c_Engine_d_init : PySem.W.codeIn K cd_Engine_d_init "Engine.__init__" = true)
    (k_Engine_d_init : PySem.W.keepIn K (.ref f_Engine_d_init) = true)
    (a_Marks_d_init : PySem.W.findIn K (.ref C_Marks) "__init__" = some (some (.ref f_Marks_d_init)))
    (i_Marks_d_init : PySem.W.isFn K (.ref f_Marks_d_init) = true)
    (l_Marks_d_init : K.lookup f_Marks_d_init = some ⟨oc_Marks_d_init, od_Marks_d_init, .func (PySem.W.fnOf "__init__" "Marks.__init__" (defArgs s_Marks_d_init) (defBody s_Marks_d_init) (defScope s_Marks_d_init) .none kV_Marks_d_init dc_Marks_d_init pm_Marks_d_init an_Marks_d_init cd_Marks_d_init ct_Marks_d_init), sl_Marks_d_init⟩)
    (c_Marks_d_init : PySem.W.codeIn K cd_Marks_d_init "Marks.__init__" = true)
    (k_Marks_d_init : PySem.W.keepIn K (.ref f_Marks_d_init) = true)
    (a_Marks_d_or : PySem.W.findIn K (.ref C_Marks) "__or__" = some (some (.ref f_Marks_d_or)))
    (i_Marks_d_or : PySem.W.isFn K (.ref f_Marks_d_or) = true)
    (l_Marks_d_or : K.lookup f_Marks_d_or = some ⟨oc_Marks_d_or, od_Marks_d_or, .func (PySem.W.fnOf "__or__" "Marks.__or__" (defArgs s_Marks_d_or) (defBody s_Marks_d_or) (defScope s_Marks_d_or) .none kV_Marks_d_or dc_Marks_d_or pm_Marks_d_or an_Marks_d_or cd_Marks_d_or ct_Marks_d_or), sl_Marks_d_or⟩)
    (c_Marks_d_or : PySem.W.codeIn K cd_Marks_d_or "Marks.__or__" = true)
    (k_Marks_d_or : PySem.W.keepIn K (.ref f_Marks_d_or) = true)
    (a_Marks_d_ior : PySem.W.findIn K (.ref C_Marks) "__ior__" = some (some (.ref f_Marks_d_ior)))
    (i_Marks_d_ior : PySem.W.isFn K (.ref f_Marks_d_ior) = true)
    (l_Marks_d_ior : K.lookup f_Marks_d_ior = some ⟨oc_Marks_d_ior, od_Marks_d_ior, .func (PySem.W.fnOf "__ior__" "Marks.__ior__" (defArgs s_Marks_d_ior) (defBody s_Marks_d_ior) (defScope s_Marks_d_ior) .none kV_Marks_d_ior dc_Marks_d_ior pm_Marks_d_ior an_Marks_d_ior cd_Marks_d_ior ct_Marks_d_ior), sl_Marks_d_ior⟩)
    (c_Marks_d_ior : PySem.W.codeIn K cd_Marks_d_ior "Marks.__ior__" = true)
    (k_Marks_d_ior : PySem.W.keepIn K (.ref f_Marks_d_ior) = true)
    (a_Marks_d_len : PySem.W.findIn K (.ref C_Marks) "__len__" = some (some (.ref f_Marks_d_len)))
    (i_Marks_d_len : PySem.W.isFn K (.ref f_Marks_d_len) = true)
    (l_Marks_d_len : K.lookup f_Marks_d_len = some ⟨oc_Marks_d_len, od_Marks_d_len, .func (PySem.W.fnOf "__len__" "Marks.__len__" (defArgs s_Marks_d_len) (defBody s_Marks_d_len) (defScope s_Marks_d_len) .none kV_Marks_d_len dc_Marks_d_len pm_Marks_d_len an_Marks_d_len cd_Marks_d_len ct_Marks_d_len), sl_Marks_d_len⟩)
    (c_Marks_d_len : PySem.W.codeIn K cd_Marks_d_len "Marks.__len__" = true)
    (k_Marks_d_len : PySem.W.keepIn K (.ref f_Marks_d_len) = true)
    (a_law_distinct : PySem.W.nsIn K mainGlobals "_law_distinct" = some (some (.ref f_law_distinct)))
    (l_law_distinct : K.lookup f_law_distinct = some ⟨oc_law_distinct, od_law_distinct, .func (PySem.W.fnOf "_law_distinct" "_law_distinct" (defArgs s_law_distinct) (defBody s_law_distinct) (defScope s_law_distinct) .none kV_law_distinct dc_law_distinct pm_law_distinct an_law_distinct cd_law_distinct ct_law_distinct), sl_law_distinct⟩)
    (c_law_distinct : PySem.W.codeIn K cd_law_distinct "_law_distinct" = true)
    (k_law_distinct : PySem.W.keepIn K (.ref f_law_distinct) = true)
    (a_law_alphabet : PySem.W.nsIn K mainGlobals "_law_alphabet" = some (some (.ref f_law_alphabet)))
    (l_law_alphabet : K.lookup f_law_alphabet = some ⟨oc_law_alphabet, od_law_alphabet, .func (PySem.W.fnOf "_law_alphabet" "_law_alphabet" (defArgs s_law_alphabet) (defBody s_law_alphabet) (defScope s_law_alphabet) .none kV_law_alphabet dc_law_alphabet pm_law_alphabet an_law_alphabet cd_law_alphabet ct_law_alphabet), sl_law_alphabet⟩)
    (c_law_alphabet : PySem.W.codeIn K cd_law_alphabet "_law_alphabet" = true)
    (k_law_alphabet : PySem.W.keepIn K (.ref f_law_alphabet) = true)
    (a_Book_d_init : PySem.W.findIn K (.ref C_Book) "__init__" = some (some (.ref f_Book_d_init)))
    (i_Book_d_init : PySem.W.isFn K (.ref f_Book_d_init) = true)
    (l_Book_d_init : K.lookup f_Book_d_init = some ⟨oc_Book_d_init, od_Book_d_init, .func (PySem.W.fnOf "__init__" "Book.__init__" (defArgs s_Book_d_init) (defBody s_Book_d_init) (defScope s_Book_d_init) .none kV_Book_d_init dc_Book_d_init pm_Book_d_init an_Book_d_init cd_Book_d_init ct_Book_d_init), sl_Book_d_init⟩)
    (c_Book_d_init : PySem.W.codeIn K cd_Book_d_init "Book.__init__" = true)
    (k_Book_d_init : PySem.W.keepIn K (.ref f_Book_d_init) = true)
    (a_Book_places : PySem.W.findIn K (.ref C_Book) "places" = some (some (.ref f_Book_places)))
    (i_Book_places : PySem.W.isFn K (.ref f_Book_places) = true)
    (l_Book_places : K.lookup f_Book_places = some ⟨oc_Book_places, od_Book_places, .func (PySem.W.fnOf "places" "Book.places" (defArgs s_Book_places) (defBody s_Book_places) (defScope s_Book_places) .none kV_Book_places dc_Book_places pm_Book_places an_Book_places cd_Book_places ct_Book_places), sl_Book_places⟩)
    (c_Book_places : PySem.W.codeIn K cd_Book_places "Book.places" = true)
    (k_Book_places : PySem.W.keepIn K (.ref f_Book_places) = true)
    (a_Book_has_rule : PySem.W.findIn K (.ref C_Book) "has_rule" = some (some (.ref f_Book_has_rule)))
    (i_Book_has_rule : PySem.W.isFn K (.ref f_Book_has_rule) = true)
    (l_Book_has_rule : K.lookup f_Book_has_rule = some ⟨oc_Book_has_rule, od_Book_has_rule, .func (PySem.W.fnOf "has_rule" "Book.has_rule" (defArgs s_Book_has_rule) (defBody s_Book_has_rule) (defScope s_Book_has_rule) .none kV_Book_has_rule dc_Book_has_rule pm_Book_has_rule an_Book_has_rule cd_Book_has_rule ct_Book_has_rule), sl_Book_has_rule⟩)
    (c_Book_has_rule : PySem.W.codeIn K cd_Book_has_rule "Book.has_rule" = true)
    (k_Book_has_rule : PySem.W.keepIn K (.ref f_Book_has_rule) = true)
    (a_Book_is_way : PySem.W.findIn K (.ref C_Book) "is_way" = some (some (.ref f_Book_is_way)))
    (i_Book_is_way : PySem.W.isFn K (.ref f_Book_is_way) = true)
    (l_Book_is_way : K.lookup f_Book_is_way = some ⟨oc_Book_is_way, od_Book_is_way, .func (PySem.W.fnOf "is_way" "Book.is_way" (defArgs s_Book_is_way) (defBody s_Book_is_way) (defScope s_Book_is_way) .none kV_Book_is_way dc_Book_is_way pm_Book_is_way an_Book_is_way cd_Book_is_way ct_Book_is_way), sl_Book_is_way⟩)
    (c_Book_is_way : PySem.W.codeIn K cd_Book_is_way "Book.is_way" = true)
    (k_Book_is_way : PySem.W.keepIn K (.ref f_Book_is_way) = true)
    (a_Book_enters : PySem.W.findIn K (.ref C_Book) "enters" = some (some (.ref f_Book_enters)))
    (i_Book_enters : PySem.W.isFn K (.ref f_Book_enters) = true)
    (l_Book_enters : K.lookup f_Book_enters = some ⟨oc_Book_enters, od_Book_enters, .func (PySem.W.fnOf "enters" "Book.enters" (defArgs s_Book_enters) (defBody s_Book_enters) (defScope s_Book_enters) .none kV_Book_enters dc_Book_enters pm_Book_enters an_Book_enters cd_Book_enters ct_Book_enters), sl_Book_enters⟩)
    (c_Book_enters : PySem.W.codeIn K cd_Book_enters "Book.enters" = true)
    (k_Book_enters : PySem.W.keepIn K (.ref f_Book_enters) = true)
    (a_Book_through : PySem.W.findIn K (.ref C_Book) "through" = some (some (.ref f_Book_through)))
    (i_Book_through : PySem.W.isFn K (.ref f_Book_through) = true)
    (l_Book_through : K.lookup f_Book_through = some ⟨oc_Book_through, od_Book_through, .func (PySem.W.fnOf "through" "Book.through" (defArgs s_Book_through) (defBody s_Book_through) (defScope s_Book_through) .none kV_Book_through dc_Book_through pm_Book_through an_Book_through cd_Book_through ct_Book_through), sl_Book_through⟩)
    (c_Book_through : PySem.W.codeIn K cd_Book_through "Book.through" = true)
    (k_Book_through : PySem.W.keepIn K (.ref f_Book_through) = true)
    (a_Book_d_getitem : PySem.W.findIn K (.ref C_Book) "__getitem__" = some (some (.ref f_Book_d_getitem)))
    (i_Book_d_getitem : PySem.W.isFn K (.ref f_Book_d_getitem) = true)
    (fi_Book_d_getitem : PySem.W.fnIn K f_Book_d_getitem = true)
    (l_Book_d_getitem : K.lookup f_Book_d_getitem = some ⟨oc_Book_d_getitem, od_Book_d_getitem, .func (PySem.W.fnOf "__getitem__" "Book.__getitem__" (defArgs s_Book_d_getitem) (defBody s_Book_d_getitem) (defScope s_Book_d_getitem) .none kV_Book_d_getitem dc_Book_d_getitem pm_Book_d_getitem an_Book_d_getitem cd_Book_d_getitem ct_Book_d_getitem), sl_Book_d_getitem⟩)
    (c_Book_d_getitem : PySem.W.codeIn K cd_Book_d_getitem "Book.__getitem__" = true)
    (k_Book_d_getitem : PySem.W.keepIn K (.ref f_Book_d_getitem) = true)
    (a_Book_d_setitem : PySem.W.findIn K (.ref C_Book) "__setitem__" = some (some (.ref f_Book_d_setitem)))
    (i_Book_d_setitem : PySem.W.isFn K (.ref f_Book_d_setitem) = true)
    (l_Book_d_setitem : K.lookup f_Book_d_setitem = some ⟨oc_Book_d_setitem, od_Book_d_setitem, .func (PySem.W.fnOf "__setitem__" "Book.__setitem__" (defArgs s_Book_d_setitem) (defBody s_Book_d_setitem) (defScope s_Book_d_setitem) .none kV_Book_d_setitem dc_Book_d_setitem pm_Book_d_setitem an_Book_d_setitem cd_Book_d_setitem ct_Book_d_setitem), sl_Book_d_setitem⟩)
    (c_Book_d_setitem : PySem.W.codeIn K cd_Book_d_setitem "Book.__setitem__" = true)
    (k_Book_d_setitem : PySem.W.keepIn K (.ref f_Book_d_setitem) = true)
    (a_Book_atoms : PySem.W.findIn K (.ref C_Book) "atoms" = some (some (.ref f_Book_atoms)))
    (i_Book_atoms : PySem.W.isFn K (.ref f_Book_atoms) = true)
    (l_Book_atoms : K.lookup f_Book_atoms = some ⟨oc_Book_atoms, od_Book_atoms, .func (PySem.W.fnOf "atoms" "Book.atoms" (defArgs s_Book_atoms) (defBody s_Book_atoms) (defScope s_Book_atoms) .none kV_Book_atoms dc_Book_atoms pm_Book_atoms an_Book_atoms cd_Book_atoms ct_Book_atoms), sl_Book_atoms⟩)
    (c_Book_atoms : PySem.W.codeIn K cd_Book_atoms "Book.atoms" = true)
    (k_Book_atoms : PySem.W.keepIn K (.ref f_Book_atoms) = true)
    (a_law_engine : PySem.W.nsIn K mainGlobals "_law_engine" = some (some (.ref f_law_engine)))
    (l_law_engine : K.lookup f_law_engine = some ⟨oc_law_engine, od_law_engine, .func (PySem.W.fnOf "_law_engine" "_law_engine" (defArgs s_law_engine) (defBody s_law_engine) (defScope s_law_engine) .none kV_law_engine dc_law_engine pm_law_engine an_law_engine cd_law_engine ct_law_engine), sl_law_engine⟩)
    (c_law_engine : PySem.W.codeIn K cd_law_engine "_law_engine" = true)
    (k_law_engine : PySem.W.keepIn K (.ref f_law_engine) = true)
    (a_law_any_reads : PySem.W.nsIn K mainGlobals "_law_any_reads" = some (some (.ref f_law_any_reads)))
    (l_law_any_reads : K.lookup f_law_any_reads = some ⟨oc_law_any_reads, od_law_any_reads, .func (PySem.W.fnOf "_law_any_reads" "_law_any_reads" (defArgs s_law_any_reads) (defBody s_law_any_reads) (defScope s_law_any_reads) .none kV_law_any_reads dc_law_any_reads pm_law_any_reads an_law_any_reads cd_law_any_reads ct_law_any_reads), sl_law_any_reads⟩)
    (c_law_any_reads : PySem.W.codeIn K cd_law_any_reads "_law_any_reads" = true)
    (k_law_any_reads : PySem.W.keepIn K (.ref f_law_any_reads) = true)
    (a_law_places : PySem.W.nsIn K mainGlobals "_law_places" = some (some (.ref f_law_places)))
    (l_law_places : K.lookup f_law_places = some ⟨oc_law_places, od_law_places, .func (PySem.W.fnOf "_law_places" "_law_places" (defArgs s_law_places) (defBody s_law_places) (defScope s_law_places) .none kV_law_places dc_law_places pm_law_places an_law_places cd_law_places ct_law_places), sl_law_places⟩)
    (c_law_places : PySem.W.codeIn K cd_law_places "_law_places" = true)
    (k_law_places : PySem.W.keepIn K (.ref f_law_places) = true)
    (a_law_any_atom : PySem.W.nsIn K mainGlobals "_law_any_atom" = some (some (.ref f_law_any_atom)))
    (l_law_any_atom : K.lookup f_law_any_atom = some ⟨oc_law_any_atom, od_law_any_atom, .func (PySem.W.fnOf "_law_any_atom" "_law_any_atom" (defArgs s_law_any_atom) (defBody s_law_any_atom) (defScope s_law_any_atom) .none kV_law_any_atom dc_law_any_atom pm_law_any_atom an_law_any_atom cd_law_any_atom ct_law_any_atom), sl_law_any_atom⟩)
    (c_law_any_atom : PySem.W.codeIn K cd_law_any_atom "_law_any_atom" = true)
    (k_law_any_atom : PySem.W.keepIn K (.ref f_law_any_atom) = true)
    (a_law_add : PySem.W.nsIn K mainGlobals "_law_add" = some (some (.ref f_law_add)))
    (l_law_add : K.lookup f_law_add = some ⟨oc_law_add, od_law_add, .func (PySem.W.fnOf "_law_add" "_law_add" (defArgs s_law_add) (defBody s_law_add) (defScope s_law_add) .none kV_law_add dc_law_add pm_law_add an_law_add cd_law_add ct_law_add), sl_law_add⟩)
    (c_law_add : PySem.W.codeIn K cd_law_add "_law_add" = true)
    (k_law_add : PySem.W.keepIn K (.ref f_law_add) = true)
    (a_law_more : PySem.W.nsIn K mainGlobals "_law_more" = some (some (.ref f_law_more)))
    (l_law_more : K.lookup f_law_more = some ⟨oc_law_more, od_law_more, .func (PySem.W.fnOf "_law_more" "_law_more" (defArgs s_law_more) (defBody s_law_more) (defScope s_law_more) .none kV_law_more dc_law_more pm_law_more an_law_more cd_law_more ct_law_more), sl_law_more⟩)
    (c_law_more : PySem.W.codeIn K cd_law_more "_law_more" = true)
    (k_law_more : PySem.W.keepIn K (.ref f_law_more) = true)
    (a_law_ways : PySem.W.nsIn K mainGlobals "_law_ways" = some (some (.ref f_law_ways)))
    (l_law_ways : K.lookup f_law_ways = some ⟨oc_law_ways, od_law_ways, .func (PySem.W.fnOf "_law_ways" "_law_ways" (defArgs s_law_ways) (defBody s_law_ways) (defScope s_law_ways) .none kV_law_ways dc_law_ways pm_law_ways an_law_ways cd_law_ways ct_law_ways), sl_law_ways⟩)
    (c_law_ways : PySem.W.codeIn K cd_law_ways "_law_ways" = true)
    (k_law_ways : PySem.W.keepIn K (.ref f_law_ways) = true)
    (a_law_fence : PySem.W.nsIn K mainGlobals "_law_fence" = some (some (.ref f_law_fence)))
    (l_law_fence : K.lookup f_law_fence = some ⟨oc_law_fence, od_law_fence, .func (PySem.W.fnOf "_law_fence" "_law_fence" (defArgs s_law_fence) (defBody s_law_fence) (defScope s_law_fence) .none kV_law_fence dc_law_fence pm_law_fence an_law_fence cd_law_fence ct_law_fence), sl_law_fence⟩)
    (c_law_fence : PySem.W.codeIn K cd_law_fence "_law_fence" = true)
    (k_law_fence : PySem.W.keepIn K (.ref f_law_fence) = true)
    (a_law_made_engine : PySem.W.nsIn K mainGlobals "_law_made_engine" = some (some (.ref f_law_made_engine)))
    (l_law_made_engine : K.lookup f_law_made_engine = some ⟨oc_law_made_engine, od_law_made_engine, .func (PySem.W.fnOf "_law_made_engine" "_law_made_engine" (defArgs s_law_made_engine) (defBody s_law_made_engine) (defScope s_law_made_engine) .none kV_law_made_engine dc_law_made_engine pm_law_made_engine an_law_made_engine cd_law_made_engine ct_law_made_engine), sl_law_made_engine⟩)
    (c_law_made_engine : PySem.W.codeIn K cd_law_made_engine "_law_made_engine" = true)
    (k_law_made_engine : PySem.W.keepIn K (.ref f_law_made_engine) = true)
    (a_law_made : PySem.W.nsIn K mainGlobals "_law_made" = some (some (.ref f_law_made)))
    (l_law_made : K.lookup f_law_made = some ⟨oc_law_made, od_law_made, .func (PySem.W.fnOf "_law_made" "_law_made" (defArgs s_law_made) (defBody s_law_made) (defScope s_law_made) .none kV_law_made dc_law_made pm_law_made an_law_made cd_law_made ct_law_made), sl_law_made⟩)
    (c_law_made : PySem.W.codeIn K cd_law_made "_law_made" = true)
    (k_law_made : PySem.W.keepIn K (.ref f_law_made) = true)
    (a_law_rule : PySem.W.nsIn K mainGlobals "_law_rule" = some (some (.ref f_law_rule)))
    (l_law_rule : K.lookup f_law_rule = some ⟨oc_law_rule, od_law_rule, .func (PySem.W.fnOf "_law_rule" "_law_rule" (defArgs s_law_rule) (defBody s_law_rule) (defScope s_law_rule) .none kV_law_rule dc_law_rule pm_law_rule an_law_rule cd_law_rule ct_law_rule), sl_law_rule⟩)
    (c_law_rule : PySem.W.codeIn K cd_law_rule "_law_rule" = true)
    (k_law_rule : PySem.W.keepIn K (.ref f_law_rule) = true)
    (a_law_meets : PySem.W.nsIn K mainGlobals "_law_meets" = some (some (.ref f_law_meets)))
    (l_law_meets : K.lookup f_law_meets = some ⟨oc_law_meets, od_law_meets, .func (PySem.W.fnOf "_law_meets" "_law_meets" (defArgs s_law_meets) (defBody s_law_meets) (defScope s_law_meets) .none kV_law_meets dc_law_meets pm_law_meets an_law_meets cd_law_meets ct_law_meets), sl_law_meets⟩)
    (c_law_meets : PySem.W.codeIn K cd_law_meets "_law_meets" = true)
    (k_law_meets : PySem.W.keepIn K (.ref f_law_meets) = true)
    (a_law_atoms : PySem.W.nsIn K mainGlobals "_law_atoms" = some (some (.ref f_law_atoms)))
    (l_law_atoms : K.lookup f_law_atoms = some ⟨oc_law_atoms, od_law_atoms, .func (PySem.W.fnOf "_law_atoms" "_law_atoms" (defArgs s_law_atoms) (defBody s_law_atoms) (defScope s_law_atoms) .none kV_law_atoms dc_law_atoms pm_law_atoms an_law_atoms cd_law_atoms ct_law_atoms), sl_law_atoms⟩)
    (c_law_atoms : PySem.W.codeIn K cd_law_atoms "_law_atoms" = true)
    (k_law_atoms : PySem.W.keepIn K (.ref f_law_atoms) = true)
    (a_law_has_rule : PySem.W.nsIn K mainGlobals "_law_has_rule" = some (some (.ref f_law_has_rule)))
    (l_law_has_rule : K.lookup f_law_has_rule = some ⟨oc_law_has_rule, od_law_has_rule, .func (PySem.W.fnOf "_law_has_rule" "_law_has_rule" (defArgs s_law_has_rule) (defBody s_law_has_rule) (defScope s_law_has_rule) .none kV_law_has_rule dc_law_has_rule pm_law_has_rule an_law_has_rule cd_law_has_rule ct_law_has_rule), sl_law_has_rule⟩)
    (c_law_has_rule : PySem.W.codeIn K cd_law_has_rule "_law_has_rule" = true)
    (k_law_has_rule : PySem.W.keepIn K (.ref f_law_has_rule) = true)
    (a_law_read : PySem.W.nsIn K mainGlobals "_law_read" = some (some (.ref f_law_read)))
    (l_law_read : K.lookup f_law_read = some ⟨oc_law_read, od_law_read, .func (PySem.W.fnOf "_law_read" "_law_read" (defArgs s_law_read) (defBody s_law_read) (defScope s_law_read) .none kV_law_read dc_law_read pm_law_read an_law_read cd_law_read ct_law_read), sl_law_read⟩)
    (c_law_read : PySem.W.codeIn K cd_law_read "_law_read" = true)
    (k_law_read : PySem.W.keepIn K (.ref f_law_read) = true)
    (a_law_is_set : PySem.W.nsIn K mainGlobals "_law_is_set" = some (some (.ref f_law_is_set)))
    (l_law_is_set : K.lookup f_law_is_set = some ⟨oc_law_is_set, od_law_is_set, .func (PySem.W.fnOf "_law_is_set" "_law_is_set" (defArgs s_law_is_set) (defBody s_law_is_set) (defScope s_law_is_set) .none kV_law_is_set dc_law_is_set pm_law_is_set an_law_is_set cd_law_is_set ct_law_is_set), sl_law_is_set⟩)
    (c_law_is_set : PySem.W.codeIn K cd_law_is_set "_law_is_set" = true)
    (k_law_is_set : PySem.W.keepIn K (.ref f_law_is_set) = true)
    (a_law_told_sets_stay : PySem.W.nsIn K mainGlobals "_law_told_sets_stay" = some (some (.ref f_law_told_sets_stay)))
    (l_law_told_sets_stay : K.lookup f_law_told_sets_stay = some ⟨oc_law_told_sets_stay, od_law_told_sets_stay, .func (PySem.W.fnOf "_law_told_sets_stay" "_law_told_sets_stay" (defArgs s_law_told_sets_stay) (defBody s_law_told_sets_stay) (defScope s_law_told_sets_stay) .none kV_law_told_sets_stay dc_law_told_sets_stay pm_law_told_sets_stay an_law_told_sets_stay cd_law_told_sets_stay ct_law_told_sets_stay), sl_law_told_sets_stay⟩)
    (c_law_told_sets_stay : PySem.W.codeIn K cd_law_told_sets_stay "_law_told_sets_stay" = true)
    (k_law_told_sets_stay : PySem.W.keepIn K (.ref f_law_told_sets_stay) = true)
    (a_law : PySem.W.nsIn K mainGlobals "law" = some (some (.ref f_law)))
    (l_law : K.lookup f_law = some ⟨oc_law, od_law, .func (PySem.W.fnOf "law" "law" (defArgs s_law) (defBody s_law) (defScope s_law) .none kV_law dc_law pm_law an_law cd_law ct_law), sl_law⟩)
    (c_law : PySem.W.codeIn K cd_law "law" = true)
    (k_law : PySem.W.keepIn K (.ref f_law) = true)
    (a_Marks_d_iter : PySem.W.findIn K (.ref C_Marks) "__iter__" = some (some (.ref f_Marks_d_iter)))
    (i_Marks_d_iter : PySem.W.isFn K (.ref f_Marks_d_iter) = true)
    (l_Marks_d_iter : K.lookup f_Marks_d_iter = some ⟨oc_Marks_d_iter, od_Marks_d_iter, .func (PySem.W.fnOf "__iter__" "Marks.__iter__" (defArgs s_Marks_d_iter) (defBody s_Marks_d_iter) (defScope s_Marks_d_iter) .none kV_Marks_d_iter dc_Marks_d_iter pm_Marks_d_iter an_Marks_d_iter cd_Marks_d_iter ct_Marks_d_iter), sl_Marks_d_iter⟩)
    (c_Marks_d_iter : PySem.W.codeIn K cd_Marks_d_iter "Marks.__iter__" = true)
    (k_Marks_d_iter : PySem.W.keepIn K (.ref f_Marks_d_iter) = true)
    (n_Book_engine : PySem.W.findIn K (.ref C_Book) "engine" = some none)
    (n_Book_marks : PySem.W.findIn K (.ref C_Book) "marks" = some none)
    (n_Book_reads : PySem.W.findIn K (.ref C_Book) "reads" = some none)
    (n_Book_rules : PySem.W.findIn K (.ref C_Book) "rules" = some none)
    (n_Engine_attributes : PySem.W.findIn K (.ref C_Engine) "attributes" = some none)
    (n_Engine_kinds : PySem.W.findIn K (.ref C_Engine) "kinds" = some none)
    (n_Engine_passes : PySem.W.findIn K (.ref C_Engine) "passes" = some none)
    (n_Engine_table : PySem.W.findIn K (.ref C_Engine) "table" = some none)
    (n_Marks_names : PySem.W.findIn K (.ref C_Marks) "names" = some none)
    (a_CHANGE_PLACES : PySem.W.nsIn K mainGlobals "CHANGE_PLACES" = some (some (.ref c_CHANGE_PLACES)))
    (l_CHANGE_PLACES : K.lookup c_CHANGE_PLACES = some { cls := .type "tuple", dict := dd_CHANGE_PLACES, data := .seq #[.str "own" t_CHANGE_PLACES_0, .str "parent" t_CHANGE_PLACES_1, .str "next" t_CHANGE_PLACES_2, .str "children" t_CHANGE_PLACES_3] nn_CHANGE_PLACES, slots := sl_CHANGE_PLACES })
    (a_EDIT_PLACES : PySem.W.nsIn K mainGlobals "EDIT_PLACES" = some (some (.ref c_EDIT_PLACES)))
    (l_EDIT_PLACES : K.lookup c_EDIT_PLACES = some { cls := .type "tuple", dict := dd_EDIT_PLACES, data := .seq #[.str "own" t_EDIT_PLACES_0, .str "parent" t_EDIT_PLACES_1, .str "next" t_EDIT_PLACES_2, .str "up" t_EDIT_PLACES_3] nn_EDIT_PLACES, slots := sl_EDIT_PLACES })
    (a_LETTERS : PySem.W.nsIn K mainGlobals "LETTERS" = some (some (.str "abcdefghijklmnopqrstuvwxyz" t_LETTERS)))
    (a_RELATIONS : PySem.W.nsIn K mainGlobals "RELATIONS" = some (some (.ref c_RELATIONS)))
    (l_RELATIONS : K.lookup c_RELATIONS = some { cls := .type "tuple", dict := dd_RELATIONS, data := .seq #[.str "own" t_RELATIONS_0, .str "parent" t_RELATIONS_1, .str "children" t_RELATIONS_2, .str "before" t_RELATIONS_3] nn_RELATIONS, slots := sl_RELATIONS })
    (a_WORDS : PySem.W.nsIn K mainGlobals "WORDS" = some (some (.ref c_WORDS)))
    (l_WORDS : K.lookup c_WORDS = some { cls := .type "tuple", dict := dd_WORDS, data := .seq #[.str "style" t_WORDS_0, .str "insert" t_WORDS_1, .str "remove" t_WORDS_2, .str "move" t_WORDS_3] nn_WORDS, slots := sl_WORDS })
    (z_all : PySem.W.nsIn K mainGlobals "all" = some none)
    (z_any : PySem.W.nsIn K mainGlobals "any" = some none)
    (z_int : PySem.W.nsIn K mainGlobals "int" = some none)
    (z_isinstance : PySem.W.nsIn K mainGlobals "isinstance" = some none)
    (z_iter : PySem.W.nsIn K mainGlobals "iter" = some none)
    (z_len : PySem.W.nsIn K mainGlobals "len" = some none)
    (z_list : PySem.W.nsIn K mainGlobals "list" = some none)
    (z_min : PySem.W.nsIn K mainGlobals "min" = some none)
    (z_range : PySem.W.nsIn K mainGlobals "range" = some none)
    (z_sorted : PySem.W.nsIn K mainGlobals "sorted" = some none)
    (z_str : PySem.W.nsIn K mainGlobals "str" = some none)
    (z_tuple : PySem.W.nsIn K mainGlobals "tuple" = some none)
    : ∃ fd : FuncData, (∀ (s : Shared) (v : Value), BindsTo s fd ⟨[v], []⟩ [("script", v)]) ∧ ∀ base : Heap, K.In base → base.Ns mainGlobals mg → FnOk l.prog w K mg base (L2.CX l.prog w) 7 fa fd ["script"] (SpD K tLaw) := by
  have e : f_law = fa := Value.ref.inj (Option.some.inj ((PySem.W.mg_of X G a_law).symm.trans hfa))
  subst e
  have T : Txt K mg ⟨C_BadBook, C_BadEngine, C_Book, C_Engine, C_Marks, f_law_tape, f_law_pick, f_law_some, f_law_one, f_law_kind_names, f_law_mark_names, f_law_turn, f_law_in_time, f_law_sources, f_is_name, f_are_distinct, f_are_names, f_split_source, f_Engine_checked, f_Engine_d_init, f_Marks_d_init, f_Marks_d_or, f_Marks_d_ior, f_Marks_d_len, f_law_distinct, f_law_alphabet, f_Book_d_init, f_Book_places, f_Book_has_rule, f_Book_is_way, f_Book_enters, f_Book_through, f_Book_d_getitem, f_Book_d_setitem, f_Book_atoms, f_law_engine, f_law_any_reads, f_law_places, f_law_any_atom, f_law_add, f_law_more, f_law_ways, f_law_fence, f_law_made_engine, f_law_made, f_law_rule, f_law_meets, f_law_atoms, f_law_has_rule, f_law_read, f_law_is_set, f_law_told_sets_stay, f_law, f_Marks_d_iter, c_CHANGE_PLACES, c_EDIT_PLACES, c_RELATIONS, c_WORDS⟩ := { F_law_tape := ⟨⟨_, _, _, _, _, _, _, _, _, l_law_tape, c_law_tape⟩, k_law_tape⟩, g_law_tape := PySem.W.mg_of X G a_law_tape, F_law_pick := ⟨⟨_, _, _, _, _, _, _, _, _, l_law_pick, c_law_pick⟩, k_law_pick⟩, g_law_pick := PySem.W.mg_of X G a_law_pick, F_law_some := ⟨⟨_, _, _, _, _, _, _, _, _, l_law_some, c_law_some⟩, k_law_some⟩, g_law_some := PySem.W.mg_of X G a_law_some, F_law_one := ⟨⟨_, _, _, _, _, _, _, _, _, l_law_one, c_law_one⟩, k_law_one⟩, g_law_one := PySem.W.mg_of X G a_law_one, F_law_kind_names := ⟨⟨_, _, _, _, _, _, _, _, _, l_law_kind_names, c_law_kind_names⟩, k_law_kind_names⟩, g_law_kind_names := PySem.W.mg_of X G a_law_kind_names, F_law_mark_names := ⟨⟨_, _, _, _, _, _, _, _, _, l_law_mark_names, c_law_mark_names⟩, k_law_mark_names⟩, g_law_mark_names := PySem.W.mg_of X G a_law_mark_names, F_law_turn := ⟨⟨_, _, _, _, _, _, _, _, _, l_law_turn, c_law_turn⟩, k_law_turn⟩, g_law_turn := PySem.W.mg_of X G a_law_turn, F_law_in_time := ⟨⟨_, _, _, _, _, _, _, _, _, l_law_in_time, c_law_in_time⟩, k_law_in_time⟩, g_law_in_time := PySem.W.mg_of X G a_law_in_time, F_law_sources := ⟨⟨_, _, _, _, _, _, _, _, _, l_law_sources, c_law_sources⟩, k_law_sources⟩, g_law_sources := PySem.W.mg_of X G a_law_sources, F_is_name := ⟨⟨_, _, _, _, _, _, _, _, _, l_is_name, c_is_name⟩, k_is_name⟩, g_is_name := PySem.W.mg_of X G a_is_name, F_are_distinct := ⟨⟨_, _, _, _, _, _, _, _, _, l_are_distinct, c_are_distinct⟩, k_are_distinct⟩, g_are_distinct := PySem.W.mg_of X G a_are_distinct, F_are_names := ⟨⟨_, _, _, _, _, _, _, _, _, l_are_names, c_are_names⟩, k_are_names⟩, g_are_names := PySem.W.mg_of X G a_are_names, F_split_source := ⟨⟨_, _, _, _, _, _, _, _, _, l_split_source, c_split_source⟩, k_split_source⟩, g_split_source := PySem.W.mg_of X G a_split_source, F_Engine_checked := ⟨⟨_, _, _, _, _, _, _, _, _, l_Engine_checked, c_Engine_checked⟩, k_Engine_checked⟩, mt_Engine_checked := ⟨a_Engine_checked, i_Engine_checked, k_Engine_checked⟩, F_Engine_d_init := ⟨⟨_, _, _, _, _, _, _, _, _, l_Engine_d_init, c_Engine_d_init⟩, k_Engine_d_init⟩, F_Marks_d_init := ⟨⟨_, _, _, _, _, _, _, _, _, l_Marks_d_init, c_Marks_d_init⟩, k_Marks_d_init⟩, F_Marks_d_or := ⟨⟨_, _, _, _, _, _, _, _, _, l_Marks_d_or, c_Marks_d_or⟩, k_Marks_d_or⟩, m_Marks_d_or := ⟨a_Marks_d_or, i_Marks_d_or⟩, mt_Marks_d_or := ⟨a_Marks_d_or, i_Marks_d_or, k_Marks_d_or⟩, F_Marks_d_ior := ⟨⟨_, _, _, _, _, _, _, _, _, l_Marks_d_ior, c_Marks_d_ior⟩, k_Marks_d_ior⟩, m_Marks_d_ior := ⟨a_Marks_d_ior, i_Marks_d_ior⟩, mt_Marks_d_ior := ⟨a_Marks_d_ior, i_Marks_d_ior, k_Marks_d_ior⟩, F_Marks_d_len := ⟨⟨_, _, _, _, _, _, _, _, _, l_Marks_d_len, c_Marks_d_len⟩, k_Marks_d_len⟩, m_Marks_d_len := ⟨a_Marks_d_len, i_Marks_d_len⟩, mt_Marks_d_len := ⟨a_Marks_d_len, i_Marks_d_len, k_Marks_d_len⟩, F_law_distinct := ⟨⟨_, _, _, _, _, _, _, _, _, l_law_distinct, c_law_distinct⟩, k_law_distinct⟩, g_law_distinct := PySem.W.mg_of X G a_law_distinct, F_law_alphabet := ⟨⟨_, _, _, _, _, _, _, _, _, l_law_alphabet, c_law_alphabet⟩, k_law_alphabet⟩, g_law_alphabet := PySem.W.mg_of X G a_law_alphabet, F_Book_d_init := ⟨⟨_, _, _, _, _, _, _, _, _, l_Book_d_init, c_Book_d_init⟩, k_Book_d_init⟩, F_Book_places := ⟨⟨_, _, _, _, _, _, _, _, _, l_Book_places, c_Book_places⟩, k_Book_places⟩, mt_Book_places := ⟨a_Book_places, i_Book_places, k_Book_places⟩, F_Book_has_rule := ⟨⟨_, _, _, _, _, _, _, _, _, l_Book_has_rule, c_Book_has_rule⟩, k_Book_has_rule⟩, mt_Book_has_rule := ⟨a_Book_has_rule, i_Book_has_rule, k_Book_has_rule⟩, F_Book_is_way := ⟨⟨_, _, _, _, _, _, _, _, _, l_Book_is_way, c_Book_is_way⟩, k_Book_is_way⟩, mt_Book_is_way := ⟨a_Book_is_way, i_Book_is_way, k_Book_is_way⟩, F_Book_enters := ⟨⟨_, _, _, _, _, _, _, _, _, l_Book_enters, c_Book_enters⟩, k_Book_enters⟩, mt_Book_enters := ⟨a_Book_enters, i_Book_enters, k_Book_enters⟩, F_Book_through := ⟨⟨_, _, _, _, _, _, _, _, _, l_Book_through, c_Book_through⟩, k_Book_through⟩, mt_Book_through := ⟨a_Book_through, i_Book_through, k_Book_through⟩, F_Book_d_getitem := ⟨⟨_, _, _, _, _, _, _, _, _, l_Book_d_getitem, c_Book_d_getitem⟩, k_Book_d_getitem⟩, m_Book_d_getitem := ⟨a_Book_d_getitem, i_Book_d_getitem⟩, fi_Book_d_getitem := fi_Book_d_getitem, F_Book_d_setitem := ⟨⟨_, _, _, _, _, _, _, _, _, l_Book_d_setitem, c_Book_d_setitem⟩, k_Book_d_setitem⟩, m_Book_d_setitem := ⟨a_Book_d_setitem, i_Book_d_setitem⟩, mt_Book_d_setitem := ⟨a_Book_d_setitem, i_Book_d_setitem, k_Book_d_setitem⟩, F_Book_atoms := ⟨⟨_, _, _, _, _, _, _, _, _, l_Book_atoms, c_Book_atoms⟩, k_Book_atoms⟩, mt_Book_atoms := ⟨a_Book_atoms, i_Book_atoms, k_Book_atoms⟩, F_law_engine := ⟨⟨_, _, _, _, _, _, _, _, _, l_law_engine, c_law_engine⟩, k_law_engine⟩, g_law_engine := PySem.W.mg_of X G a_law_engine, F_law_any_reads := ⟨⟨_, _, _, _, _, _, _, _, _, l_law_any_reads, c_law_any_reads⟩, k_law_any_reads⟩, g_law_any_reads := PySem.W.mg_of X G a_law_any_reads, F_law_places := ⟨⟨_, _, _, _, _, _, _, _, _, l_law_places, c_law_places⟩, k_law_places⟩, g_law_places := PySem.W.mg_of X G a_law_places, F_law_any_atom := ⟨⟨_, _, _, _, _, _, _, _, _, l_law_any_atom, c_law_any_atom⟩, k_law_any_atom⟩, g_law_any_atom := PySem.W.mg_of X G a_law_any_atom, F_law_add := ⟨⟨_, _, _, _, _, _, _, _, _, l_law_add, c_law_add⟩, k_law_add⟩, g_law_add := PySem.W.mg_of X G a_law_add, F_law_more := ⟨⟨_, _, _, _, _, _, _, _, _, l_law_more, c_law_more⟩, k_law_more⟩, g_law_more := PySem.W.mg_of X G a_law_more, F_law_ways := ⟨⟨_, _, _, _, _, _, _, _, _, l_law_ways, c_law_ways⟩, k_law_ways⟩, g_law_ways := PySem.W.mg_of X G a_law_ways, F_law_fence := ⟨⟨_, _, _, _, _, _, _, _, _, l_law_fence, c_law_fence⟩, k_law_fence⟩, g_law_fence := PySem.W.mg_of X G a_law_fence, F_law_made_engine := ⟨⟨_, _, _, _, _, _, _, _, _, l_law_made_engine, c_law_made_engine⟩, k_law_made_engine⟩, g_law_made_engine := PySem.W.mg_of X G a_law_made_engine, F_law_made := ⟨⟨_, _, _, _, _, _, _, _, _, l_law_made, c_law_made⟩, k_law_made⟩, g_law_made := PySem.W.mg_of X G a_law_made, F_law_rule := ⟨⟨_, _, _, _, _, _, _, _, _, l_law_rule, c_law_rule⟩, k_law_rule⟩, g_law_rule := PySem.W.mg_of X G a_law_rule, F_law_meets := ⟨⟨_, _, _, _, _, _, _, _, _, l_law_meets, c_law_meets⟩, k_law_meets⟩, g_law_meets := PySem.W.mg_of X G a_law_meets, F_law_atoms := ⟨⟨_, _, _, _, _, _, _, _, _, l_law_atoms, c_law_atoms⟩, k_law_atoms⟩, g_law_atoms := PySem.W.mg_of X G a_law_atoms, F_law_has_rule := ⟨⟨_, _, _, _, _, _, _, _, _, l_law_has_rule, c_law_has_rule⟩, k_law_has_rule⟩, g_law_has_rule := PySem.W.mg_of X G a_law_has_rule, F_law_read := ⟨⟨_, _, _, _, _, _, _, _, _, l_law_read, c_law_read⟩, k_law_read⟩, g_law_read := PySem.W.mg_of X G a_law_read, F_law_is_set := ⟨⟨_, _, _, _, _, _, _, _, _, l_law_is_set, c_law_is_set⟩, k_law_is_set⟩, g_law_is_set := PySem.W.mg_of X G a_law_is_set, F_law_told_sets_stay := ⟨⟨_, _, _, _, _, _, _, _, _, l_law_told_sets_stay, c_law_told_sets_stay⟩, k_law_told_sets_stay⟩, g_law_told_sets_stay := PySem.W.mg_of X G a_law_told_sets_stay, F_law := ⟨⟨_, _, _, _, _, _, _, _, _, l_law, c_law⟩, k_law⟩, g_law := PySem.W.mg_of X G a_law, F_Marks_d_iter := ⟨⟨_, _, _, _, _, _, _, _, _, l_Marks_d_iter, c_Marks_d_iter⟩, k_Marks_d_iter⟩, m_Marks_d_iter := ⟨a_Marks_d_iter, i_Marks_d_iter⟩, mt_Marks_d_iter := ⟨a_Marks_d_iter, i_Marks_d_iter, k_Marks_d_iter⟩, g_BadBook := PySem.W.mg_of X G a_BadBook, x_BadBook := ⟨x1_BadBook, x2_BadBook, x3_BadBook, x4_BadBook⟩, em_BadBook := em_BadBook, g_BadEngine := PySem.W.mg_of X G a_BadEngine, x_BadEngine := ⟨x1_BadEngine, x2_BadEngine, x3_BadEngine, x4_BadEngine⟩, g_Book := PySem.W.mg_of X G a_Book, ns_Book := ns_Book, o_Book := ⟨⟨pg_Book, hd_Book, po_Book, sa_Book⟩, ha_Book, hn, htk, hm_Book⟩, sf_Book := sf_Book, nf_Book := nf_Book, mk_Book := ⟨mk_Book, a_Book_d_init, i_Book_d_init, kc_Book⟩, n_Book_engine := n_Book_engine, n_Book_marks := n_Book_marks, n_Book_reads := n_Book_reads, n_Book_rules := n_Book_rules, g_Engine := PySem.W.mg_of X G a_Engine, o_Engine := ⟨⟨pg_Engine, hd_Engine, po_Engine, sa_Engine⟩, ha_Engine, hn, htk, hm_Engine⟩, sf_Engine := sf_Engine, nf_Engine := nf_Engine, mk_Engine := ⟨mk_Engine, a_Engine_d_init, i_Engine_d_init, kc_Engine⟩, n_Engine_attributes := n_Engine_attributes, n_Engine_kinds := n_Engine_kinds, n_Engine_passes := n_Engine_passes, n_Engine_table := n_Engine_table, g_Marks := PySem.W.mg_of X G a_Marks, o_Marks := ⟨⟨pg_Marks, hd_Marks, po_Marks, sa_Marks⟩, ha_Marks, hn, htk, hm_Marks⟩, sf_Marks := sf_Marks, nf_Marks := nf_Marks, mk_Marks := ⟨mk_Marks, a_Marks_d_init, i_Marks_d_init, kc_Marks⟩, n_Marks_names := n_Marks_names, i_Marks_Marks := if_pos (beq_self_eq_true _), c_CHANGE_PLACES := PySem.W.mg_of X G a_CHANGE_PLACES, k_CHANGE_PLACES := ⟨⟨_, _, _, l_CHANGE_PLACES, rfl, rfl, by show (4 : Nat) ≤ sizeLine; rw [sizeLine_eq]; decide, .cons ⟨_, rfl⟩ (.cons ⟨_, rfl⟩ (.cons ⟨_, rfl⟩ (.cons ⟨_, rfl⟩ (.nil))))⟩⟩, c_EDIT_PLACES := PySem.W.mg_of X G a_EDIT_PLACES, k_EDIT_PLACES := ⟨⟨_, _, _, l_EDIT_PLACES, rfl, rfl, by show (4 : Nat) ≤ sizeLine; rw [sizeLine_eq]; decide, .cons ⟨_, rfl⟩ (.cons ⟨_, rfl⟩ (.cons ⟨_, rfl⟩ (.cons ⟨_, rfl⟩ (.nil))))⟩⟩, c_LETTERS := ⟨_, PySem.W.mg_of X G a_LETTERS⟩, c_RELATIONS := PySem.W.mg_of X G a_RELATIONS, k_RELATIONS := ⟨⟨_, _, _, l_RELATIONS, rfl, rfl, by show (4 : Nat) ≤ sizeLine; rw [sizeLine_eq]; decide, .cons ⟨_, rfl⟩ (.cons ⟨_, rfl⟩ (.cons ⟨_, rfl⟩ (.cons ⟨_, rfl⟩ (.nil))))⟩⟩, c_WORDS := PySem.W.mg_of X G a_WORDS, k_WORDS := ⟨⟨_, _, _, l_WORDS, rfl, rfl, by show (4 : Nat) ≤ sizeLine; rw [sizeLine_eq]; decide, .cons ⟨_, rfl⟩ (.cons ⟨_, rfl⟩ (.cons ⟨_, rfl⟩ (.cons ⟨_, rfl⟩ (.nil))))⟩⟩, z_all := PySem.W.mg_none_of X G z_all, z_any := PySem.W.mg_none_of X G z_any, z_int := PySem.W.mg_none_of X G z_int, z_isinstance := PySem.W.mg_none_of X G z_isinstance, z_iter := PySem.W.mg_none_of X G z_iter, z_len := PySem.W.mg_none_of X G z_len, z_list := PySem.W.mg_none_of X G z_list, z_min := PySem.W.mg_none_of X G z_min, z_range := PySem.W.mg_none_of X G z_range, z_sorted := PySem.W.mg_none_of X G z_sorted, z_str := PySem.W.mg_none_of X G z_str, z_tuple := PySem.W.mg_none_of X G z_tuple }
  have G_law_tape : ∀ base, FnD l.prog w K mg base 1 f_law_tape (w_law_tape ⟨C_BadBook, C_BadEngine, C_Book, C_Engine, C_Marks, f_law_tape, f_law_pick, f_law_some, f_law_one, f_law_kind_names, f_law_mark_names, f_law_turn, f_law_in_time, f_law_sources, f_is_name, f_are_distinct, f_are_names, f_split_source, f_Engine_checked, f_Engine_d_init, f_Marks_d_init, f_Marks_d_or, f_Marks_d_ior, f_Marks_d_len, f_law_distinct, f_law_alphabet, f_Book_d_init, f_Book_places, f_Book_has_rule, f_Book_is_way, f_Book_enters, f_Book_through, f_Book_d_getitem, f_Book_d_setitem, f_Book_atoms, f_law_engine, f_law_any_reads, f_law_places, f_law_any_atom, f_law_add, f_law_more, f_law_ways, f_law_fence, f_law_made_engine, f_law_made, f_law_rule, f_law_meets, f_law_atoms, f_law_has_rule, f_law_read, f_law_is_set, f_law_told_sets_stay, f_law, f_Marks_d_iter, c_CHANGE_PLACES, c_EDIT_PLACES, c_RELATIONS, c_WORDS⟩) := fun base => ok_law_tape T 
  have G_law_pick : ∀ base, FnD l.prog w K mg base 1 f_law_pick (w_law_pick ⟨C_BadBook, C_BadEngine, C_Book, C_Engine, C_Marks, f_law_tape, f_law_pick, f_law_some, f_law_one, f_law_kind_names, f_law_mark_names, f_law_turn, f_law_in_time, f_law_sources, f_is_name, f_are_distinct, f_are_names, f_split_source, f_Engine_checked, f_Engine_d_init, f_Marks_d_init, f_Marks_d_or, f_Marks_d_ior, f_Marks_d_len, f_law_distinct, f_law_alphabet, f_Book_d_init, f_Book_places, f_Book_has_rule, f_Book_is_way, f_Book_enters, f_Book_through, f_Book_d_getitem, f_Book_d_setitem, f_Book_atoms, f_law_engine, f_law_any_reads, f_law_places, f_law_any_atom, f_law_add, f_law_more, f_law_ways, f_law_fence, f_law_made_engine, f_law_made, f_law_rule, f_law_meets, f_law_atoms, f_law_has_rule, f_law_read, f_law_is_set, f_law_told_sets_stay, f_law, f_Marks_d_iter, c_CHANGE_PLACES, c_EDIT_PLACES, c_RELATIONS, c_WORDS⟩) := fun base => ok_law_pick T 
  have G_law_some : ∀ base, FnD l.prog w K mg base 2 f_law_some (w_law_some ⟨C_BadBook, C_BadEngine, C_Book, C_Engine, C_Marks, f_law_tape, f_law_pick, f_law_some, f_law_one, f_law_kind_names, f_law_mark_names, f_law_turn, f_law_in_time, f_law_sources, f_is_name, f_are_distinct, f_are_names, f_split_source, f_Engine_checked, f_Engine_d_init, f_Marks_d_init, f_Marks_d_or, f_Marks_d_ior, f_Marks_d_len, f_law_distinct, f_law_alphabet, f_Book_d_init, f_Book_places, f_Book_has_rule, f_Book_is_way, f_Book_enters, f_Book_through, f_Book_d_getitem, f_Book_d_setitem, f_Book_atoms, f_law_engine, f_law_any_reads, f_law_places, f_law_any_atom, f_law_add, f_law_more, f_law_ways, f_law_fence, f_law_made_engine, f_law_made, f_law_rule, f_law_meets, f_law_atoms, f_law_has_rule, f_law_read, f_law_is_set, f_law_told_sets_stay, f_law, f_Marks_d_iter, c_CHANGE_PLACES, c_EDIT_PLACES, c_RELATIONS, c_WORDS⟩) := fun base => ok_law_some T (G_law_pick base)
  have G_law_one : ∀ base, FnD l.prog w K mg base 2 f_law_one (w_law_one ⟨C_BadBook, C_BadEngine, C_Book, C_Engine, C_Marks, f_law_tape, f_law_pick, f_law_some, f_law_one, f_law_kind_names, f_law_mark_names, f_law_turn, f_law_in_time, f_law_sources, f_is_name, f_are_distinct, f_are_names, f_split_source, f_Engine_checked, f_Engine_d_init, f_Marks_d_init, f_Marks_d_or, f_Marks_d_ior, f_Marks_d_len, f_law_distinct, f_law_alphabet, f_Book_d_init, f_Book_places, f_Book_has_rule, f_Book_is_way, f_Book_enters, f_Book_through, f_Book_d_getitem, f_Book_d_setitem, f_Book_atoms, f_law_engine, f_law_any_reads, f_law_places, f_law_any_atom, f_law_add, f_law_more, f_law_ways, f_law_fence, f_law_made_engine, f_law_made, f_law_rule, f_law_meets, f_law_atoms, f_law_has_rule, f_law_read, f_law_is_set, f_law_told_sets_stay, f_law, f_Marks_d_iter, c_CHANGE_PLACES, c_EDIT_PLACES, c_RELATIONS, c_WORDS⟩) := fun base => ok_law_one T (G_law_pick base)
  have G_law_kind_names : ∀ base, FnD l.prog w K mg base 3 f_law_kind_names (w_law_kind_names ⟨C_BadBook, C_BadEngine, C_Book, C_Engine, C_Marks, f_law_tape, f_law_pick, f_law_some, f_law_one, f_law_kind_names, f_law_mark_names, f_law_turn, f_law_in_time, f_law_sources, f_is_name, f_are_distinct, f_are_names, f_split_source, f_Engine_checked, f_Engine_d_init, f_Marks_d_init, f_Marks_d_or, f_Marks_d_ior, f_Marks_d_len, f_law_distinct, f_law_alphabet, f_Book_d_init, f_Book_places, f_Book_has_rule, f_Book_is_way, f_Book_enters, f_Book_through, f_Book_d_getitem, f_Book_d_setitem, f_Book_atoms, f_law_engine, f_law_any_reads, f_law_places, f_law_any_atom, f_law_add, f_law_more, f_law_ways, f_law_fence, f_law_made_engine, f_law_made, f_law_rule, f_law_meets, f_law_atoms, f_law_has_rule, f_law_read, f_law_is_set, f_law_told_sets_stay, f_law, f_Marks_d_iter, c_CHANGE_PLACES, c_EDIT_PLACES, c_RELATIONS, c_WORDS⟩) := fun base => ok_law_kind_names T (G_law_some base)
  have G_law_mark_names : ∀ base, FnD l.prog w K mg base 3 f_law_mark_names (w_law_mark_names ⟨C_BadBook, C_BadEngine, C_Book, C_Engine, C_Marks, f_law_tape, f_law_pick, f_law_some, f_law_one, f_law_kind_names, f_law_mark_names, f_law_turn, f_law_in_time, f_law_sources, f_is_name, f_are_distinct, f_are_names, f_split_source, f_Engine_checked, f_Engine_d_init, f_Marks_d_init, f_Marks_d_or, f_Marks_d_ior, f_Marks_d_len, f_law_distinct, f_law_alphabet, f_Book_d_init, f_Book_places, f_Book_has_rule, f_Book_is_way, f_Book_enters, f_Book_through, f_Book_d_getitem, f_Book_d_setitem, f_Book_atoms, f_law_engine, f_law_any_reads, f_law_places, f_law_any_atom, f_law_add, f_law_more, f_law_ways, f_law_fence, f_law_made_engine, f_law_made, f_law_rule, f_law_meets, f_law_atoms, f_law_has_rule, f_law_read, f_law_is_set, f_law_told_sets_stay, f_law, f_Marks_d_iter, c_CHANGE_PLACES, c_EDIT_PLACES, c_RELATIONS, c_WORDS⟩) := fun base => ok_law_mark_names T (G_law_some base)
  have G_law_turn : ∀ base, FnD l.prog w K mg base 1 f_law_turn (w_law_turn ⟨C_BadBook, C_BadEngine, C_Book, C_Engine, C_Marks, f_law_tape, f_law_pick, f_law_some, f_law_one, f_law_kind_names, f_law_mark_names, f_law_turn, f_law_in_time, f_law_sources, f_is_name, f_are_distinct, f_are_names, f_split_source, f_Engine_checked, f_Engine_d_init, f_Marks_d_init, f_Marks_d_or, f_Marks_d_ior, f_Marks_d_len, f_law_distinct, f_law_alphabet, f_Book_d_init, f_Book_places, f_Book_has_rule, f_Book_is_way, f_Book_enters, f_Book_through, f_Book_d_getitem, f_Book_d_setitem, f_Book_atoms, f_law_engine, f_law_any_reads, f_law_places, f_law_any_atom, f_law_add, f_law_more, f_law_ways, f_law_fence, f_law_made_engine, f_law_made, f_law_rule, f_law_meets, f_law_atoms, f_law_has_rule, f_law_read, f_law_is_set, f_law_told_sets_stay, f_law, f_Marks_d_iter, c_CHANGE_PLACES, c_EDIT_PLACES, c_RELATIONS, c_WORDS⟩) := fun base => ok_law_turn T 
  have G_law_in_time : ∀ base, FnD l.prog w K mg base 2 f_law_in_time (w_law_in_time ⟨C_BadBook, C_BadEngine, C_Book, C_Engine, C_Marks, f_law_tape, f_law_pick, f_law_some, f_law_one, f_law_kind_names, f_law_mark_names, f_law_turn, f_law_in_time, f_law_sources, f_is_name, f_are_distinct, f_are_names, f_split_source, f_Engine_checked, f_Engine_d_init, f_Marks_d_init, f_Marks_d_or, f_Marks_d_ior, f_Marks_d_len, f_law_distinct, f_law_alphabet, f_Book_d_init, f_Book_places, f_Book_has_rule, f_Book_is_way, f_Book_enters, f_Book_through, f_Book_d_getitem, f_Book_d_setitem, f_Book_atoms, f_law_engine, f_law_any_reads, f_law_places, f_law_any_atom, f_law_add, f_law_more, f_law_ways, f_law_fence, f_law_made_engine, f_law_made, f_law_rule, f_law_meets, f_law_atoms, f_law_has_rule, f_law_read, f_law_is_set, f_law_told_sets_stay, f_law, f_Marks_d_iter, c_CHANGE_PLACES, c_EDIT_PLACES, c_RELATIONS, c_WORDS⟩) := fun base => ok_law_in_time T (G_law_turn base)
  have G_law_sources : ∀ base, FnD l.prog w K mg base 3 f_law_sources (w_law_sources ⟨C_BadBook, C_BadEngine, C_Book, C_Engine, C_Marks, f_law_tape, f_law_pick, f_law_some, f_law_one, f_law_kind_names, f_law_mark_names, f_law_turn, f_law_in_time, f_law_sources, f_is_name, f_are_distinct, f_are_names, f_split_source, f_Engine_checked, f_Engine_d_init, f_Marks_d_init, f_Marks_d_or, f_Marks_d_ior, f_Marks_d_len, f_law_distinct, f_law_alphabet, f_Book_d_init, f_Book_places, f_Book_has_rule, f_Book_is_way, f_Book_enters, f_Book_through, f_Book_d_getitem, f_Book_d_setitem, f_Book_atoms, f_law_engine, f_law_any_reads, f_law_places, f_law_any_atom, f_law_add, f_law_more, f_law_ways, f_law_fence, f_law_made_engine, f_law_made, f_law_rule, f_law_meets, f_law_atoms, f_law_has_rule, f_law_read, f_law_is_set, f_law_told_sets_stay, f_law, f_Marks_d_iter, c_CHANGE_PLACES, c_EDIT_PLACES, c_RELATIONS, c_WORDS⟩) := fun base => ok_law_sources T (G_law_in_time base) (G_law_pick base) (G_law_one base)
  have G_is_name : ∀ base, FnD l.prog w K mg base 1 f_is_name (w_is_name ⟨C_BadBook, C_BadEngine, C_Book, C_Engine, C_Marks, f_law_tape, f_law_pick, f_law_some, f_law_one, f_law_kind_names, f_law_mark_names, f_law_turn, f_law_in_time, f_law_sources, f_is_name, f_are_distinct, f_are_names, f_split_source, f_Engine_checked, f_Engine_d_init, f_Marks_d_init, f_Marks_d_or, f_Marks_d_ior, f_Marks_d_len, f_law_distinct, f_law_alphabet, f_Book_d_init, f_Book_places, f_Book_has_rule, f_Book_is_way, f_Book_enters, f_Book_through, f_Book_d_getitem, f_Book_d_setitem, f_Book_atoms, f_law_engine, f_law_any_reads, f_law_places, f_law_any_atom, f_law_add, f_law_more, f_law_ways, f_law_fence, f_law_made_engine, f_law_made, f_law_rule, f_law_meets, f_law_atoms, f_law_has_rule, f_law_read, f_law_is_set, f_law_told_sets_stay, f_law, f_Marks_d_iter, c_CHANGE_PLACES, c_EDIT_PLACES, c_RELATIONS, c_WORDS⟩) := fun base => ok_is_name T 
  have G_are_distinct : ∀ base, FnD l.prog w K mg base 1 f_are_distinct (w_are_distinct ⟨C_BadBook, C_BadEngine, C_Book, C_Engine, C_Marks, f_law_tape, f_law_pick, f_law_some, f_law_one, f_law_kind_names, f_law_mark_names, f_law_turn, f_law_in_time, f_law_sources, f_is_name, f_are_distinct, f_are_names, f_split_source, f_Engine_checked, f_Engine_d_init, f_Marks_d_init, f_Marks_d_or, f_Marks_d_ior, f_Marks_d_len, f_law_distinct, f_law_alphabet, f_Book_d_init, f_Book_places, f_Book_has_rule, f_Book_is_way, f_Book_enters, f_Book_through, f_Book_d_getitem, f_Book_d_setitem, f_Book_atoms, f_law_engine, f_law_any_reads, f_law_places, f_law_any_atom, f_law_add, f_law_more, f_law_ways, f_law_fence, f_law_made_engine, f_law_made, f_law_rule, f_law_meets, f_law_atoms, f_law_has_rule, f_law_read, f_law_is_set, f_law_told_sets_stay, f_law, f_Marks_d_iter, c_CHANGE_PLACES, c_EDIT_PLACES, c_RELATIONS, c_WORDS⟩) := fun base => ok_are_distinct T 
  have G_are_names : ∀ base, FnD l.prog w K mg base 2 f_are_names (w_are_names ⟨C_BadBook, C_BadEngine, C_Book, C_Engine, C_Marks, f_law_tape, f_law_pick, f_law_some, f_law_one, f_law_kind_names, f_law_mark_names, f_law_turn, f_law_in_time, f_law_sources, f_is_name, f_are_distinct, f_are_names, f_split_source, f_Engine_checked, f_Engine_d_init, f_Marks_d_init, f_Marks_d_or, f_Marks_d_ior, f_Marks_d_len, f_law_distinct, f_law_alphabet, f_Book_d_init, f_Book_places, f_Book_has_rule, f_Book_is_way, f_Book_enters, f_Book_through, f_Book_d_getitem, f_Book_d_setitem, f_Book_atoms, f_law_engine, f_law_any_reads, f_law_places, f_law_any_atom, f_law_add, f_law_more, f_law_ways, f_law_fence, f_law_made_engine, f_law_made, f_law_rule, f_law_meets, f_law_atoms, f_law_has_rule, f_law_read, f_law_is_set, f_law_told_sets_stay, f_law, f_Marks_d_iter, c_CHANGE_PLACES, c_EDIT_PLACES, c_RELATIONS, c_WORDS⟩) := fun base => ok_are_names T (G_are_distinct base) (G_is_name base)
  have G_split_source : ∀ base, FnD l.prog w K mg base 1 f_split_source (w_split_source ⟨C_BadBook, C_BadEngine, C_Book, C_Engine, C_Marks, f_law_tape, f_law_pick, f_law_some, f_law_one, f_law_kind_names, f_law_mark_names, f_law_turn, f_law_in_time, f_law_sources, f_is_name, f_are_distinct, f_are_names, f_split_source, f_Engine_checked, f_Engine_d_init, f_Marks_d_init, f_Marks_d_or, f_Marks_d_ior, f_Marks_d_len, f_law_distinct, f_law_alphabet, f_Book_d_init, f_Book_places, f_Book_has_rule, f_Book_is_way, f_Book_enters, f_Book_through, f_Book_d_getitem, f_Book_d_setitem, f_Book_atoms, f_law_engine, f_law_any_reads, f_law_places, f_law_any_atom, f_law_add, f_law_more, f_law_ways, f_law_fence, f_law_made_engine, f_law_made, f_law_rule, f_law_meets, f_law_atoms, f_law_has_rule, f_law_read, f_law_is_set, f_law_told_sets_stay, f_law, f_Marks_d_iter, c_CHANGE_PLACES, c_EDIT_PLACES, c_RELATIONS, c_WORDS⟩) := fun base => ok_split_source T 
  have G_Engine_checked : ∀ base, FnD l.prog w K mg base 2 f_Engine_checked (w_Engine_checked ⟨C_BadBook, C_BadEngine, C_Book, C_Engine, C_Marks, f_law_tape, f_law_pick, f_law_some, f_law_one, f_law_kind_names, f_law_mark_names, f_law_turn, f_law_in_time, f_law_sources, f_is_name, f_are_distinct, f_are_names, f_split_source, f_Engine_checked, f_Engine_d_init, f_Marks_d_init, f_Marks_d_or, f_Marks_d_ior, f_Marks_d_len, f_law_distinct, f_law_alphabet, f_Book_d_init, f_Book_places, f_Book_has_rule, f_Book_is_way, f_Book_enters, f_Book_through, f_Book_d_getitem, f_Book_d_setitem, f_Book_atoms, f_law_engine, f_law_any_reads, f_law_places, f_law_any_atom, f_law_add, f_law_more, f_law_ways, f_law_fence, f_law_made_engine, f_law_made, f_law_rule, f_law_meets, f_law_atoms, f_law_has_rule, f_law_read, f_law_is_set, f_law_told_sets_stay, f_law, f_Marks_d_iter, c_CHANGE_PLACES, c_EDIT_PLACES, c_RELATIONS, c_WORDS⟩) := fun base => ok_Engine_checked T (G_are_distinct base) (G_split_source base)
  have G_Engine_d_init : ∀ base, FnD l.prog w K mg base 3 f_Engine_d_init (w_Engine_d_init ⟨C_BadBook, C_BadEngine, C_Book, C_Engine, C_Marks, f_law_tape, f_law_pick, f_law_some, f_law_one, f_law_kind_names, f_law_mark_names, f_law_turn, f_law_in_time, f_law_sources, f_is_name, f_are_distinct, f_are_names, f_split_source, f_Engine_checked, f_Engine_d_init, f_Marks_d_init, f_Marks_d_or, f_Marks_d_ior, f_Marks_d_len, f_law_distinct, f_law_alphabet, f_Book_d_init, f_Book_places, f_Book_has_rule, f_Book_is_way, f_Book_enters, f_Book_through, f_Book_d_getitem, f_Book_d_setitem, f_Book_atoms, f_law_engine, f_law_any_reads, f_law_places, f_law_any_atom, f_law_add, f_law_more, f_law_ways, f_law_fence, f_law_made_engine, f_law_made, f_law_rule, f_law_meets, f_law_atoms, f_law_has_rule, f_law_read, f_law_is_set, f_law_told_sets_stay, f_law, f_Marks_d_iter, c_CHANGE_PLACES, c_EDIT_PLACES, c_RELATIONS, c_WORDS⟩) := fun base => ok_Engine_d_init T (G_are_names base) (G_Engine_checked base)
  have G_Marks_d_init : ∀ base, FnD l.prog w K mg base 1 f_Marks_d_init (w_Marks_d_init ⟨C_BadBook, C_BadEngine, C_Book, C_Engine, C_Marks, f_law_tape, f_law_pick, f_law_some, f_law_one, f_law_kind_names, f_law_mark_names, f_law_turn, f_law_in_time, f_law_sources, f_is_name, f_are_distinct, f_are_names, f_split_source, f_Engine_checked, f_Engine_d_init, f_Marks_d_init, f_Marks_d_or, f_Marks_d_ior, f_Marks_d_len, f_law_distinct, f_law_alphabet, f_Book_d_init, f_Book_places, f_Book_has_rule, f_Book_is_way, f_Book_enters, f_Book_through, f_Book_d_getitem, f_Book_d_setitem, f_Book_atoms, f_law_engine, f_law_any_reads, f_law_places, f_law_any_atom, f_law_add, f_law_more, f_law_ways, f_law_fence, f_law_made_engine, f_law_made, f_law_rule, f_law_meets, f_law_atoms, f_law_has_rule, f_law_read, f_law_is_set, f_law_told_sets_stay, f_law, f_Marks_d_iter, c_CHANGE_PLACES, c_EDIT_PLACES, c_RELATIONS, c_WORDS⟩) := fun base => ok_Marks_d_init T 
  have G_Marks_d_or : ∀ base, FnD l.prog w K mg base 3 f_Marks_d_or (w_Marks_d_or ⟨C_BadBook, C_BadEngine, C_Book, C_Engine, C_Marks, f_law_tape, f_law_pick, f_law_some, f_law_one, f_law_kind_names, f_law_mark_names, f_law_turn, f_law_in_time, f_law_sources, f_is_name, f_are_distinct, f_are_names, f_split_source, f_Engine_checked, f_Engine_d_init, f_Marks_d_init, f_Marks_d_or, f_Marks_d_ior, f_Marks_d_len, f_law_distinct, f_law_alphabet, f_Book_d_init, f_Book_places, f_Book_has_rule, f_Book_is_way, f_Book_enters, f_Book_through, f_Book_d_getitem, f_Book_d_setitem, f_Book_atoms, f_law_engine, f_law_any_reads, f_law_places, f_law_any_atom, f_law_add, f_law_more, f_law_ways, f_law_fence, f_law_made_engine, f_law_made, f_law_rule, f_law_meets, f_law_atoms, f_law_has_rule, f_law_read, f_law_is_set, f_law_told_sets_stay, f_law, f_Marks_d_iter, c_CHANGE_PLACES, c_EDIT_PLACES, c_RELATIONS, c_WORDS⟩) := fun base => ok_Marks_d_or T (G_Marks_d_init base)
  have G_Marks_d_ior : ∀ base, FnD l.prog w K mg base 1 f_Marks_d_ior (w_Marks_d_ior ⟨C_BadBook, C_BadEngine, C_Book, C_Engine, C_Marks, f_law_tape, f_law_pick, f_law_some, f_law_one, f_law_kind_names, f_law_mark_names, f_law_turn, f_law_in_time, f_law_sources, f_is_name, f_are_distinct, f_are_names, f_split_source, f_Engine_checked, f_Engine_d_init, f_Marks_d_init, f_Marks_d_or, f_Marks_d_ior, f_Marks_d_len, f_law_distinct, f_law_alphabet, f_Book_d_init, f_Book_places, f_Book_has_rule, f_Book_is_way, f_Book_enters, f_Book_through, f_Book_d_getitem, f_Book_d_setitem, f_Book_atoms, f_law_engine, f_law_any_reads, f_law_places, f_law_any_atom, f_law_add, f_law_more, f_law_ways, f_law_fence, f_law_made_engine, f_law_made, f_law_rule, f_law_meets, f_law_atoms, f_law_has_rule, f_law_read, f_law_is_set, f_law_told_sets_stay, f_law, f_Marks_d_iter, c_CHANGE_PLACES, c_EDIT_PLACES, c_RELATIONS, c_WORDS⟩) := fun base => ok_Marks_d_ior T 
  have G_Marks_d_len : ∀ base, FnD l.prog w K mg base 1 f_Marks_d_len (w_Marks_d_len ⟨C_BadBook, C_BadEngine, C_Book, C_Engine, C_Marks, f_law_tape, f_law_pick, f_law_some, f_law_one, f_law_kind_names, f_law_mark_names, f_law_turn, f_law_in_time, f_law_sources, f_is_name, f_are_distinct, f_are_names, f_split_source, f_Engine_checked, f_Engine_d_init, f_Marks_d_init, f_Marks_d_or, f_Marks_d_ior, f_Marks_d_len, f_law_distinct, f_law_alphabet, f_Book_d_init, f_Book_places, f_Book_has_rule, f_Book_is_way, f_Book_enters, f_Book_through, f_Book_d_getitem, f_Book_d_setitem, f_Book_atoms, f_law_engine, f_law_any_reads, f_law_places, f_law_any_atom, f_law_add, f_law_more, f_law_ways, f_law_fence, f_law_made_engine, f_law_made, f_law_rule, f_law_meets, f_law_atoms, f_law_has_rule, f_law_read, f_law_is_set, f_law_told_sets_stay, f_law, f_Marks_d_iter, c_CHANGE_PLACES, c_EDIT_PLACES, c_RELATIONS, c_WORDS⟩) := fun base => ok_Marks_d_len T 
  have G_law_distinct : ∀ base, FnD l.prog w K mg base 1 f_law_distinct (w_law_distinct ⟨C_BadBook, C_BadEngine, C_Book, C_Engine, C_Marks, f_law_tape, f_law_pick, f_law_some, f_law_one, f_law_kind_names, f_law_mark_names, f_law_turn, f_law_in_time, f_law_sources, f_is_name, f_are_distinct, f_are_names, f_split_source, f_Engine_checked, f_Engine_d_init, f_Marks_d_init, f_Marks_d_or, f_Marks_d_ior, f_Marks_d_len, f_law_distinct, f_law_alphabet, f_Book_d_init, f_Book_places, f_Book_has_rule, f_Book_is_way, f_Book_enters, f_Book_through, f_Book_d_getitem, f_Book_d_setitem, f_Book_atoms, f_law_engine, f_law_any_reads, f_law_places, f_law_any_atom, f_law_add, f_law_more, f_law_ways, f_law_fence, f_law_made_engine, f_law_made, f_law_rule, f_law_meets, f_law_atoms, f_law_has_rule, f_law_read, f_law_is_set, f_law_told_sets_stay, f_law, f_Marks_d_iter, c_CHANGE_PLACES, c_EDIT_PLACES, c_RELATIONS, c_WORDS⟩) := fun base => ok_law_distinct T 
  have G_law_alphabet : ∀ base, FnD l.prog w K mg base 2 f_law_alphabet (w_law_alphabet ⟨C_BadBook, C_BadEngine, C_Book, C_Engine, C_Marks, f_law_tape, f_law_pick, f_law_some, f_law_one, f_law_kind_names, f_law_mark_names, f_law_turn, f_law_in_time, f_law_sources, f_is_name, f_are_distinct, f_are_names, f_split_source, f_Engine_checked, f_Engine_d_init, f_Marks_d_init, f_Marks_d_or, f_Marks_d_ior, f_Marks_d_len, f_law_distinct, f_law_alphabet, f_Book_d_init, f_Book_places, f_Book_has_rule, f_Book_is_way, f_Book_enters, f_Book_through, f_Book_d_getitem, f_Book_d_setitem, f_Book_atoms, f_law_engine, f_law_any_reads, f_law_places, f_law_any_atom, f_law_add, f_law_more, f_law_ways, f_law_fence, f_law_made_engine, f_law_made, f_law_rule, f_law_meets, f_law_atoms, f_law_has_rule, f_law_read, f_law_is_set, f_law_told_sets_stay, f_law, f_Marks_d_iter, c_CHANGE_PLACES, c_EDIT_PLACES, c_RELATIONS, c_WORDS⟩) := fun base => ok_law_alphabet T (G_law_distinct base)
  have G_Book_d_init : ∀ base, FnD l.prog w K mg base 3 f_Book_d_init (w_Book_d_init ⟨C_BadBook, C_BadEngine, C_Book, C_Engine, C_Marks, f_law_tape, f_law_pick, f_law_some, f_law_one, f_law_kind_names, f_law_mark_names, f_law_turn, f_law_in_time, f_law_sources, f_is_name, f_are_distinct, f_are_names, f_split_source, f_Engine_checked, f_Engine_d_init, f_Marks_d_init, f_Marks_d_or, f_Marks_d_ior, f_Marks_d_len, f_law_distinct, f_law_alphabet, f_Book_d_init, f_Book_places, f_Book_has_rule, f_Book_is_way, f_Book_enters, f_Book_through, f_Book_d_getitem, f_Book_d_setitem, f_Book_atoms, f_law_engine, f_law_any_reads, f_law_places, f_law_any_atom, f_law_add, f_law_more, f_law_ways, f_law_fence, f_law_made_engine, f_law_made, f_law_rule, f_law_meets, f_law_atoms, f_law_has_rule, f_law_read, f_law_is_set, f_law_told_sets_stay, f_law, f_Marks_d_iter, c_CHANGE_PLACES, c_EDIT_PLACES, c_RELATIONS, c_WORDS⟩) := fun base => ok_Book_d_init T (G_are_names base)
  have G_Book_places : ∀ base, FnD l.prog w K mg base 1 f_Book_places (w_Book_places ⟨C_BadBook, C_BadEngine, C_Book, C_Engine, C_Marks, f_law_tape, f_law_pick, f_law_some, f_law_one, f_law_kind_names, f_law_mark_names, f_law_turn, f_law_in_time, f_law_sources, f_is_name, f_are_distinct, f_are_names, f_split_source, f_Engine_checked, f_Engine_d_init, f_Marks_d_init, f_Marks_d_or, f_Marks_d_ior, f_Marks_d_len, f_law_distinct, f_law_alphabet, f_Book_d_init, f_Book_places, f_Book_has_rule, f_Book_is_way, f_Book_enters, f_Book_through, f_Book_d_getitem, f_Book_d_setitem, f_Book_atoms, f_law_engine, f_law_any_reads, f_law_places, f_law_any_atom, f_law_add, f_law_more, f_law_ways, f_law_fence, f_law_made_engine, f_law_made, f_law_rule, f_law_meets, f_law_atoms, f_law_has_rule, f_law_read, f_law_is_set, f_law_told_sets_stay, f_law, f_Marks_d_iter, c_CHANGE_PLACES, c_EDIT_PLACES, c_RELATIONS, c_WORDS⟩) := fun base => ok_Book_places T 
  have G_Book_has_rule : ∀ base, FnD l.prog w K mg base 2 f_Book_has_rule (w_Book_has_rule ⟨C_BadBook, C_BadEngine, C_Book, C_Engine, C_Marks, f_law_tape, f_law_pick, f_law_some, f_law_one, f_law_kind_names, f_law_mark_names, f_law_turn, f_law_in_time, f_law_sources, f_is_name, f_are_distinct, f_are_names, f_split_source, f_Engine_checked, f_Engine_d_init, f_Marks_d_init, f_Marks_d_or, f_Marks_d_ior, f_Marks_d_len, f_law_distinct, f_law_alphabet, f_Book_d_init, f_Book_places, f_Book_has_rule, f_Book_is_way, f_Book_enters, f_Book_through, f_Book_d_getitem, f_Book_d_setitem, f_Book_atoms, f_law_engine, f_law_any_reads, f_law_places, f_law_any_atom, f_law_add, f_law_more, f_law_ways, f_law_fence, f_law_made_engine, f_law_made, f_law_rule, f_law_meets, f_law_atoms, f_law_has_rule, f_law_read, f_law_is_set, f_law_told_sets_stay, f_law, f_Marks_d_iter, c_CHANGE_PLACES, c_EDIT_PLACES, c_RELATIONS, c_WORDS⟩) := fun base => ok_Book_has_rule T (G_Book_places base)
  have G_Book_is_way : ∀ base, FnD l.prog w K mg base 1 f_Book_is_way (w_Book_is_way ⟨C_BadBook, C_BadEngine, C_Book, C_Engine, C_Marks, f_law_tape, f_law_pick, f_law_some, f_law_one, f_law_kind_names, f_law_mark_names, f_law_turn, f_law_in_time, f_law_sources, f_is_name, f_are_distinct, f_are_names, f_split_source, f_Engine_checked, f_Engine_d_init, f_Marks_d_init, f_Marks_d_or, f_Marks_d_ior, f_Marks_d_len, f_law_distinct, f_law_alphabet, f_Book_d_init, f_Book_places, f_Book_has_rule, f_Book_is_way, f_Book_enters, f_Book_through, f_Book_d_getitem, f_Book_d_setitem, f_Book_atoms, f_law_engine, f_law_any_reads, f_law_places, f_law_any_atom, f_law_add, f_law_more, f_law_ways, f_law_fence, f_law_made_engine, f_law_made, f_law_rule, f_law_meets, f_law_atoms, f_law_has_rule, f_law_read, f_law_is_set, f_law_told_sets_stay, f_law, f_Marks_d_iter, c_CHANGE_PLACES, c_EDIT_PLACES, c_RELATIONS, c_WORDS⟩) := fun base => ok_Book_is_way T 
  have G_Book_enters : ∀ base, FnD l.prog w K mg base 3 f_Book_enters (w_Book_enters ⟨C_BadBook, C_BadEngine, C_Book, C_Engine, C_Marks, f_law_tape, f_law_pick, f_law_some, f_law_one, f_law_kind_names, f_law_mark_names, f_law_turn, f_law_in_time, f_law_sources, f_is_name, f_are_distinct, f_are_names, f_split_source, f_Engine_checked, f_Engine_d_init, f_Marks_d_init, f_Marks_d_or, f_Marks_d_ior, f_Marks_d_len, f_law_distinct, f_law_alphabet, f_Book_d_init, f_Book_places, f_Book_has_rule, f_Book_is_way, f_Book_enters, f_Book_through, f_Book_d_getitem, f_Book_d_setitem, f_Book_atoms, f_law_engine, f_law_any_reads, f_law_places, f_law_any_atom, f_law_add, f_law_more, f_law_ways, f_law_fence, f_law_made_engine, f_law_made, f_law_rule, f_law_meets, f_law_atoms, f_law_has_rule, f_law_read, f_law_is_set, f_law_told_sets_stay, f_law, f_Marks_d_iter, c_CHANGE_PLACES, c_EDIT_PLACES, c_RELATIONS, c_WORDS⟩) := fun base => ok_Book_enters T (G_Marks_d_init base)
  have G_Book_through : ∀ base, FnD l.prog w K mg base 3 f_Book_through (w_Book_through ⟨C_BadBook, C_BadEngine, C_Book, C_Engine, C_Marks, f_law_tape, f_law_pick, f_law_some, f_law_one, f_law_kind_names, f_law_mark_names, f_law_turn, f_law_in_time, f_law_sources, f_is_name, f_are_distinct, f_are_names, f_split_source, f_Engine_checked, f_Engine_d_init, f_Marks_d_init, f_Marks_d_or, f_Marks_d_ior, f_Marks_d_len, f_law_distinct, f_law_alphabet, f_Book_d_init, f_Book_places, f_Book_has_rule, f_Book_is_way, f_Book_enters, f_Book_through, f_Book_d_getitem, f_Book_d_setitem, f_Book_atoms, f_law_engine, f_law_any_reads, f_law_places, f_law_any_atom, f_law_add, f_law_more, f_law_ways, f_law_fence, f_law_made_engine, f_law_made, f_law_rule, f_law_meets, f_law_atoms, f_law_has_rule, f_law_read, f_law_is_set, f_law_told_sets_stay, f_law, f_Marks_d_iter, c_CHANGE_PLACES, c_EDIT_PLACES, c_RELATIONS, c_WORDS⟩) := fun base => ok_Book_through T (G_Marks_d_init base)
  have G_Book_d_getitem : ∀ base, FnD l.prog w K mg base 3 f_Book_d_getitem (w_Book_d_getitem ⟨C_BadBook, C_BadEngine, C_Book, C_Engine, C_Marks, f_law_tape, f_law_pick, f_law_some, f_law_one, f_law_kind_names, f_law_mark_names, f_law_turn, f_law_in_time, f_law_sources, f_is_name, f_are_distinct, f_are_names, f_split_source, f_Engine_checked, f_Engine_d_init, f_Marks_d_init, f_Marks_d_or, f_Marks_d_ior, f_Marks_d_len, f_law_distinct, f_law_alphabet, f_Book_d_init, f_Book_places, f_Book_has_rule, f_Book_is_way, f_Book_enters, f_Book_through, f_Book_d_getitem, f_Book_d_setitem, f_Book_atoms, f_law_engine, f_law_any_reads, f_law_places, f_law_any_atom, f_law_add, f_law_more, f_law_ways, f_law_fence, f_law_made_engine, f_law_made, f_law_rule, f_law_meets, f_law_atoms, f_law_has_rule, f_law_read, f_law_is_set, f_law_told_sets_stay, f_law, f_Marks_d_iter, c_CHANGE_PLACES, c_EDIT_PLACES, c_RELATIONS, c_WORDS⟩) := fun base => ok_Book_d_getitem T (G_Book_has_rule base) (G_Marks_d_init base)
  have G_Book_d_setitem : ∀ base, FnD l.prog w K mg base 3 f_Book_d_setitem (w_Book_d_setitem ⟨C_BadBook, C_BadEngine, C_Book, C_Engine, C_Marks, f_law_tape, f_law_pick, f_law_some, f_law_one, f_law_kind_names, f_law_mark_names, f_law_turn, f_law_in_time, f_law_sources, f_is_name, f_are_distinct, f_are_names, f_split_source, f_Engine_checked, f_Engine_d_init, f_Marks_d_init, f_Marks_d_or, f_Marks_d_ior, f_Marks_d_len, f_law_distinct, f_law_alphabet, f_Book_d_init, f_Book_places, f_Book_has_rule, f_Book_is_way, f_Book_enters, f_Book_through, f_Book_d_getitem, f_Book_d_setitem, f_Book_atoms, f_law_engine, f_law_any_reads, f_law_places, f_law_any_atom, f_law_add, f_law_more, f_law_ways, f_law_fence, f_law_made_engine, f_law_made, f_law_rule, f_law_meets, f_law_atoms, f_law_has_rule, f_law_read, f_law_is_set, f_law_told_sets_stay, f_law, f_Marks_d_iter, c_CHANGE_PLACES, c_EDIT_PLACES, c_RELATIONS, c_WORDS⟩) := fun base => ok_Book_d_setitem T (G_Book_has_rule base) (G_Book_is_way base)
  have G_Book_atoms : ∀ base, FnD l.prog w K mg base 2 f_Book_atoms (w_Book_atoms ⟨C_BadBook, C_BadEngine, C_Book, C_Engine, C_Marks, f_law_tape, f_law_pick, f_law_some, f_law_one, f_law_kind_names, f_law_mark_names, f_law_turn, f_law_in_time, f_law_sources, f_is_name, f_are_distinct, f_are_names, f_split_source, f_Engine_checked, f_Engine_d_init, f_Marks_d_init, f_Marks_d_or, f_Marks_d_ior, f_Marks_d_len, f_law_distinct, f_law_alphabet, f_Book_d_init, f_Book_places, f_Book_has_rule, f_Book_is_way, f_Book_enters, f_Book_through, f_Book_d_getitem, f_Book_d_setitem, f_Book_atoms, f_law_engine, f_law_any_reads, f_law_places, f_law_any_atom, f_law_add, f_law_more, f_law_ways, f_law_fence, f_law_made_engine, f_law_made, f_law_rule, f_law_meets, f_law_atoms, f_law_has_rule, f_law_read, f_law_is_set, f_law_told_sets_stay, f_law, f_Marks_d_iter, c_CHANGE_PLACES, c_EDIT_PLACES, c_RELATIONS, c_WORDS⟩) := fun base => ok_Book_atoms T (G_Book_places base)
  have G_law_engine : ∀ base, FnD l.prog w K mg base 4 f_law_engine (w_law_engine ⟨C_BadBook, C_BadEngine, C_Book, C_Engine, C_Marks, f_law_tape, f_law_pick, f_law_some, f_law_one, f_law_kind_names, f_law_mark_names, f_law_turn, f_law_in_time, f_law_sources, f_is_name, f_are_distinct, f_are_names, f_split_source, f_Engine_checked, f_Engine_d_init, f_Marks_d_init, f_Marks_d_or, f_Marks_d_ior, f_Marks_d_len, f_law_distinct, f_law_alphabet, f_Book_d_init, f_Book_places, f_Book_has_rule, f_Book_is_way, f_Book_enters, f_Book_through, f_Book_d_getitem, f_Book_d_setitem, f_Book_atoms, f_law_engine, f_law_any_reads, f_law_places, f_law_any_atom, f_law_add, f_law_more, f_law_ways, f_law_fence, f_law_made_engine, f_law_made, f_law_rule, f_law_meets, f_law_atoms, f_law_has_rule, f_law_read, f_law_is_set, f_law_told_sets_stay, f_law, f_Marks_d_iter, c_CHANGE_PLACES, c_EDIT_PLACES, c_RELATIONS, c_WORDS⟩) := fun base => ok_law_engine T (G_law_kind_names base) (G_law_pick base) (G_law_some base) (G_law_one base) (G_law_sources base)
  have G_law_any_reads : ∀ base, FnD l.prog w K mg base 4 f_law_any_reads (w_law_any_reads ⟨C_BadBook, C_BadEngine, C_Book, C_Engine, C_Marks, f_law_tape, f_law_pick, f_law_some, f_law_one, f_law_kind_names, f_law_mark_names, f_law_turn, f_law_in_time, f_law_sources, f_is_name, f_are_distinct, f_are_names, f_split_source, f_Engine_checked, f_Engine_d_init, f_Marks_d_init, f_Marks_d_or, f_Marks_d_ior, f_Marks_d_len, f_law_distinct, f_law_alphabet, f_Book_d_init, f_Book_places, f_Book_has_rule, f_Book_is_way, f_Book_enters, f_Book_through, f_Book_d_getitem, f_Book_d_setitem, f_Book_atoms, f_law_engine, f_law_any_reads, f_law_places, f_law_any_atom, f_law_add, f_law_more, f_law_ways, f_law_fence, f_law_made_engine, f_law_made, f_law_rule, f_law_meets, f_law_atoms, f_law_has_rule, f_law_read, f_law_is_set, f_law_told_sets_stay, f_law, f_Marks_d_iter, c_CHANGE_PLACES, c_EDIT_PLACES, c_RELATIONS, c_WORDS⟩) := fun base => ok_law_any_reads T (G_law_mark_names base) (G_law_pick base)
  have G_law_places : ∀ base, FnD l.prog w K mg base 1 f_law_places (w_law_places ⟨C_BadBook, C_BadEngine, C_Book, C_Engine, C_Marks, f_law_tape, f_law_pick, f_law_some, f_law_one, f_law_kind_names, f_law_mark_names, f_law_turn, f_law_in_time, f_law_sources, f_is_name, f_are_distinct, f_are_names, f_split_source, f_Engine_checked, f_Engine_d_init, f_Marks_d_init, f_Marks_d_or, f_Marks_d_ior, f_Marks_d_len, f_law_distinct, f_law_alphabet, f_Book_d_init, f_Book_places, f_Book_has_rule, f_Book_is_way, f_Book_enters, f_Book_through, f_Book_d_getitem, f_Book_d_setitem, f_Book_atoms, f_law_engine, f_law_any_reads, f_law_places, f_law_any_atom, f_law_add, f_law_more, f_law_ways, f_law_fence, f_law_made_engine, f_law_made, f_law_rule, f_law_meets, f_law_atoms, f_law_has_rule, f_law_read, f_law_is_set, f_law_told_sets_stay, f_law, f_Marks_d_iter, c_CHANGE_PLACES, c_EDIT_PLACES, c_RELATIONS, c_WORDS⟩) := fun base => ok_law_places T 
  have G_law_any_atom : ∀ base, FnD l.prog w K mg base 3 f_law_any_atom (w_law_any_atom ⟨C_BadBook, C_BadEngine, C_Book, C_Engine, C_Marks, f_law_tape, f_law_pick, f_law_some, f_law_one, f_law_kind_names, f_law_mark_names, f_law_turn, f_law_in_time, f_law_sources, f_is_name, f_are_distinct, f_are_names, f_split_source, f_Engine_checked, f_Engine_d_init, f_Marks_d_init, f_Marks_d_or, f_Marks_d_ior, f_Marks_d_len, f_law_distinct, f_law_alphabet, f_Book_d_init, f_Book_places, f_Book_has_rule, f_Book_is_way, f_Book_enters, f_Book_through, f_Book_d_getitem, f_Book_d_setitem, f_Book_atoms, f_law_engine, f_law_any_reads, f_law_places, f_law_any_atom, f_law_add, f_law_more, f_law_ways, f_law_fence, f_law_made_engine, f_law_made, f_law_rule, f_law_meets, f_law_atoms, f_law_has_rule, f_law_read, f_law_is_set, f_law_told_sets_stay, f_law, f_Marks_d_iter, c_CHANGE_PLACES, c_EDIT_PLACES, c_RELATIONS, c_WORDS⟩) := fun base => ok_law_any_atom T (G_law_one base) (G_law_places base)
  have G_law_add : ∀ base, FnD l.prog w K mg base 1 f_law_add (w_law_add ⟨C_BadBook, C_BadEngine, C_Book, C_Engine, C_Marks, f_law_tape, f_law_pick, f_law_some, f_law_one, f_law_kind_names, f_law_mark_names, f_law_turn, f_law_in_time, f_law_sources, f_is_name, f_are_distinct, f_are_names, f_split_source, f_Engine_checked, f_Engine_d_init, f_Marks_d_init, f_Marks_d_or, f_Marks_d_ior, f_Marks_d_len, f_law_distinct, f_law_alphabet, f_Book_d_init, f_Book_places, f_Book_has_rule, f_Book_is_way, f_Book_enters, f_Book_through, f_Book_d_getitem, f_Book_d_setitem, f_Book_atoms, f_law_engine, f_law_any_reads, f_law_places, f_law_any_atom, f_law_add, f_law_more, f_law_ways, f_law_fence, f_law_made_engine, f_law_made, f_law_rule, f_law_meets, f_law_atoms, f_law_has_rule, f_law_read, f_law_is_set, f_law_told_sets_stay, f_law, f_Marks_d_iter, c_CHANGE_PLACES, c_EDIT_PLACES, c_RELATIONS, c_WORDS⟩) := fun base => ok_law_add T 
  have G_law_more : ∀ base, FnD l.prog w K mg base 4 f_law_more (w_law_more ⟨C_BadBook, C_BadEngine, C_Book, C_Engine, C_Marks, f_law_tape, f_law_pick, f_law_some, f_law_one, f_law_kind_names, f_law_mark_names, f_law_turn, f_law_in_time, f_law_sources, f_is_name, f_are_distinct, f_are_names, f_split_source, f_Engine_checked, f_Engine_d_init, f_Marks_d_init, f_Marks_d_or, f_Marks_d_ior, f_Marks_d_len, f_law_distinct, f_law_alphabet, f_Book_d_init, f_Book_places, f_Book_has_rule, f_Book_is_way, f_Book_enters, f_Book_through, f_Book_d_getitem, f_Book_d_setitem, f_Book_atoms, f_law_engine, f_law_any_reads, f_law_places, f_law_any_atom, f_law_add, f_law_more, f_law_ways, f_law_fence, f_law_made_engine, f_law_made, f_law_rule, f_law_meets, f_law_atoms, f_law_has_rule, f_law_read, f_law_is_set, f_law_told_sets_stay, f_law, f_Marks_d_iter, c_CHANGE_PLACES, c_EDIT_PLACES, c_RELATIONS, c_WORDS⟩) := fun base => ok_law_more T (G_law_any_atom base) (G_law_add base)
  have G_law_ways : ∀ base, FnD l.prog w K mg base 1 f_law_ways (w_law_ways ⟨C_BadBook, C_BadEngine, C_Book, C_Engine, C_Marks, f_law_tape, f_law_pick, f_law_some, f_law_one, f_law_kind_names, f_law_mark_names, f_law_turn, f_law_in_time, f_law_sources, f_is_name, f_are_distinct, f_are_names, f_split_source, f_Engine_checked, f_Engine_d_init, f_Marks_d_init, f_Marks_d_or, f_Marks_d_ior, f_Marks_d_len, f_law_distinct, f_law_alphabet, f_Book_d_init, f_Book_places, f_Book_has_rule, f_Book_is_way, f_Book_enters, f_Book_through, f_Book_d_getitem, f_Book_d_setitem, f_Book_atoms, f_law_engine, f_law_any_reads, f_law_places, f_law_any_atom, f_law_add, f_law_more, f_law_ways, f_law_fence, f_law_made_engine, f_law_made, f_law_rule, f_law_meets, f_law_atoms, f_law_has_rule, f_law_read, f_law_is_set, f_law_told_sets_stay, f_law, f_Marks_d_iter, c_CHANGE_PLACES, c_EDIT_PLACES, c_RELATIONS, c_WORDS⟩) := fun base => ok_law_ways T 
  have G_law_fence : ∀ base, FnD l.prog w K mg base 3 f_law_fence (w_law_fence ⟨C_BadBook, C_BadEngine, C_Book, C_Engine, C_Marks, f_law_tape, f_law_pick, f_law_some, f_law_one, f_law_kind_names, f_law_mark_names, f_law_turn, f_law_in_time, f_law_sources, f_is_name, f_are_distinct, f_are_names, f_split_source, f_Engine_checked, f_Engine_d_init, f_Marks_d_init, f_Marks_d_or, f_Marks_d_ior, f_Marks_d_len, f_law_distinct, f_law_alphabet, f_Book_d_init, f_Book_places, f_Book_has_rule, f_Book_is_way, f_Book_enters, f_Book_through, f_Book_d_getitem, f_Book_d_setitem, f_Book_atoms, f_law_engine, f_law_any_reads, f_law_places, f_law_any_atom, f_law_add, f_law_more, f_law_ways, f_law_fence, f_law_made_engine, f_law_made, f_law_rule, f_law_meets, f_law_atoms, f_law_has_rule, f_law_read, f_law_is_set, f_law_told_sets_stay, f_law, f_Marks_d_iter, c_CHANGE_PLACES, c_EDIT_PLACES, c_RELATIONS, c_WORDS⟩) := fun base => ok_law_fence T (G_law_ways base) (G_law_pick base) (G_law_add base) (G_law_one base)
  have G_law_made_engine : ∀ base, FnD l.prog w K mg base 5 f_law_made_engine (w_law_made_engine ⟨C_BadBook, C_BadEngine, C_Book, C_Engine, C_Marks, f_law_tape, f_law_pick, f_law_some, f_law_one, f_law_kind_names, f_law_mark_names, f_law_turn, f_law_in_time, f_law_sources, f_is_name, f_are_distinct, f_are_names, f_split_source, f_Engine_checked, f_Engine_d_init, f_Marks_d_init, f_Marks_d_or, f_Marks_d_ior, f_Marks_d_len, f_law_distinct, f_law_alphabet, f_Book_d_init, f_Book_places, f_Book_has_rule, f_Book_is_way, f_Book_enters, f_Book_through, f_Book_d_getitem, f_Book_d_setitem, f_Book_atoms, f_law_engine, f_law_any_reads, f_law_places, f_law_any_atom, f_law_add, f_law_more, f_law_ways, f_law_fence, f_law_made_engine, f_law_made, f_law_rule, f_law_meets, f_law_atoms, f_law_has_rule, f_law_read, f_law_is_set, f_law_told_sets_stay, f_law, f_Marks_d_iter, c_CHANGE_PLACES, c_EDIT_PLACES, c_RELATIONS, c_WORDS⟩) := fun base => ok_law_made_engine T (G_Engine_d_init base)
  have G_law_made : ∀ base, FnD l.prog w K mg base 6 f_law_made (w_law_made ⟨C_BadBook, C_BadEngine, C_Book, C_Engine, C_Marks, f_law_tape, f_law_pick, f_law_some, f_law_one, f_law_kind_names, f_law_mark_names, f_law_turn, f_law_in_time, f_law_sources, f_is_name, f_are_distinct, f_are_names, f_split_source, f_Engine_checked, f_Engine_d_init, f_Marks_d_init, f_Marks_d_or, f_Marks_d_ior, f_Marks_d_len, f_law_distinct, f_law_alphabet, f_Book_d_init, f_Book_places, f_Book_has_rule, f_Book_is_way, f_Book_enters, f_Book_through, f_Book_d_getitem, f_Book_d_setitem, f_Book_atoms, f_law_engine, f_law_any_reads, f_law_places, f_law_any_atom, f_law_add, f_law_more, f_law_ways, f_law_fence, f_law_made_engine, f_law_made, f_law_rule, f_law_meets, f_law_atoms, f_law_has_rule, f_law_read, f_law_is_set, f_law_told_sets_stay, f_law, f_Marks_d_iter, c_CHANGE_PLACES, c_EDIT_PLACES, c_RELATIONS, c_WORDS⟩) := fun base => ok_law_made T (G_Book_d_init base) (G_law_made_engine base) (G_Book_d_getitem base) (G_Marks_d_init base) (G_Marks_d_or base) (G_Book_d_setitem base)
  have G_law_rule : ∀ base, FnD l.prog w K mg base 1 f_law_rule (w_law_rule ⟨C_BadBook, C_BadEngine, C_Book, C_Engine, C_Marks, f_law_tape, f_law_pick, f_law_some, f_law_one, f_law_kind_names, f_law_mark_names, f_law_turn, f_law_in_time, f_law_sources, f_is_name, f_are_distinct, f_are_names, f_split_source, f_Engine_checked, f_Engine_d_init, f_Marks_d_init, f_Marks_d_or, f_Marks_d_ior, f_Marks_d_len, f_law_distinct, f_law_alphabet, f_Book_d_init, f_Book_places, f_Book_has_rule, f_Book_is_way, f_Book_enters, f_Book_through, f_Book_d_getitem, f_Book_d_setitem, f_Book_atoms, f_law_engine, f_law_any_reads, f_law_places, f_law_any_atom, f_law_add, f_law_more, f_law_ways, f_law_fence, f_law_made_engine, f_law_made, f_law_rule, f_law_meets, f_law_atoms, f_law_has_rule, f_law_read, f_law_is_set, f_law_told_sets_stay, f_law, f_Marks_d_iter, c_CHANGE_PLACES, c_EDIT_PLACES, c_RELATIONS, c_WORDS⟩) := fun base => ok_law_rule T 
  have G_law_meets : ∀ base, FnD l.prog w K mg base 1 f_law_meets (w_law_meets ⟨C_BadBook, C_BadEngine, C_Book, C_Engine, C_Marks, f_law_tape, f_law_pick, f_law_some, f_law_one, f_law_kind_names, f_law_mark_names, f_law_turn, f_law_in_time, f_law_sources, f_is_name, f_are_distinct, f_are_names, f_split_source, f_Engine_checked, f_Engine_d_init, f_Marks_d_init, f_Marks_d_or, f_Marks_d_ior, f_Marks_d_len, f_law_distinct, f_law_alphabet, f_Book_d_init, f_Book_places, f_Book_has_rule, f_Book_is_way, f_Book_enters, f_Book_through, f_Book_d_getitem, f_Book_d_setitem, f_Book_atoms, f_law_engine, f_law_any_reads, f_law_places, f_law_any_atom, f_law_add, f_law_more, f_law_ways, f_law_fence, f_law_made_engine, f_law_made, f_law_rule, f_law_meets, f_law_atoms, f_law_has_rule, f_law_read, f_law_is_set, f_law_told_sets_stay, f_law, f_Marks_d_iter, c_CHANGE_PLACES, c_EDIT_PLACES, c_RELATIONS, c_WORDS⟩) := fun base => ok_law_meets T 
  have G_law_atoms : ∀ base, FnD l.prog w K mg base 2 f_law_atoms (w_law_atoms ⟨C_BadBook, C_BadEngine, C_Book, C_Engine, C_Marks, f_law_tape, f_law_pick, f_law_some, f_law_one, f_law_kind_names, f_law_mark_names, f_law_turn, f_law_in_time, f_law_sources, f_is_name, f_are_distinct, f_are_names, f_split_source, f_Engine_checked, f_Engine_d_init, f_Marks_d_init, f_Marks_d_or, f_Marks_d_ior, f_Marks_d_len, f_law_distinct, f_law_alphabet, f_Book_d_init, f_Book_places, f_Book_has_rule, f_Book_is_way, f_Book_enters, f_Book_through, f_Book_d_getitem, f_Book_d_setitem, f_Book_atoms, f_law_engine, f_law_any_reads, f_law_places, f_law_any_atom, f_law_add, f_law_more, f_law_ways, f_law_fence, f_law_made_engine, f_law_made, f_law_rule, f_law_meets, f_law_atoms, f_law_has_rule, f_law_read, f_law_is_set, f_law_told_sets_stay, f_law, f_Marks_d_iter, c_CHANGE_PLACES, c_EDIT_PLACES, c_RELATIONS, c_WORDS⟩) := fun base => ok_law_atoms T (G_law_places base)
  have G_law_has_rule : ∀ base, FnD l.prog w K mg base 2 f_law_has_rule (w_law_has_rule ⟨C_BadBook, C_BadEngine, C_Book, C_Engine, C_Marks, f_law_tape, f_law_pick, f_law_some, f_law_one, f_law_kind_names, f_law_mark_names, f_law_turn, f_law_in_time, f_law_sources, f_is_name, f_are_distinct, f_are_names, f_split_source, f_Engine_checked, f_Engine_d_init, f_Marks_d_init, f_Marks_d_or, f_Marks_d_ior, f_Marks_d_len, f_law_distinct, f_law_alphabet, f_Book_d_init, f_Book_places, f_Book_has_rule, f_Book_is_way, f_Book_enters, f_Book_through, f_Book_d_getitem, f_Book_d_setitem, f_Book_atoms, f_law_engine, f_law_any_reads, f_law_places, f_law_any_atom, f_law_add, f_law_more, f_law_ways, f_law_fence, f_law_made_engine, f_law_made, f_law_rule, f_law_meets, f_law_atoms, f_law_has_rule, f_law_read, f_law_is_set, f_law_told_sets_stay, f_law, f_Marks_d_iter, c_CHANGE_PLACES, c_EDIT_PLACES, c_RELATIONS, c_WORDS⟩) := fun base => ok_law_has_rule T (G_law_places base)
  have G_law_read : ∀ base, FnD l.prog w K mg base 5 f_law_read (w_law_read ⟨C_BadBook, C_BadEngine, C_Book, C_Engine, C_Marks, f_law_tape, f_law_pick, f_law_some, f_law_one, f_law_kind_names, f_law_mark_names, f_law_turn, f_law_in_time, f_law_sources, f_is_name, f_are_distinct, f_are_names, f_split_source, f_Engine_checked, f_Engine_d_init, f_Marks_d_init, f_Marks_d_or, f_Marks_d_ior, f_Marks_d_len, f_law_distinct, f_law_alphabet, f_Book_d_init, f_Book_places, f_Book_has_rule, f_Book_is_way, f_Book_enters, f_Book_through, f_Book_d_getitem, f_Book_d_setitem, f_Book_atoms, f_law_engine, f_law_any_reads, f_law_places, f_law_any_atom, f_law_add, f_law_more, f_law_ways, f_law_fence, f_law_made_engine, f_law_made, f_law_rule, f_law_meets, f_law_atoms, f_law_has_rule, f_law_read, f_law_is_set, f_law_told_sets_stay, f_law, f_Marks_d_iter, c_CHANGE_PLACES, c_EDIT_PLACES, c_RELATIONS, c_WORDS⟩) := fun base => ok_law_read T (G_Marks_d_len base) (G_Book_d_getitem base) (GI_Marks T) (GL_Marks T)
  have G_law_is_set : ∀ base, FnD l.prog w K mg base 4 f_law_is_set (w_law_is_set ⟨C_BadBook, C_BadEngine, C_Book, C_Engine, C_Marks, f_law_tape, f_law_pick, f_law_some, f_law_one, f_law_kind_names, f_law_mark_names, f_law_turn, f_law_in_time, f_law_sources, f_is_name, f_are_distinct, f_are_names, f_split_source, f_Engine_checked, f_Engine_d_init, f_Marks_d_init, f_Marks_d_or, f_Marks_d_ior, f_Marks_d_len, f_law_distinct, f_law_alphabet, f_Book_d_init, f_Book_places, f_Book_has_rule, f_Book_is_way, f_Book_enters, f_Book_through, f_Book_d_getitem, f_Book_d_setitem, f_Book_atoms, f_law_engine, f_law_any_reads, f_law_places, f_law_any_atom, f_law_add, f_law_more, f_law_ways, f_law_fence, f_law_made_engine, f_law_made, f_law_rule, f_law_meets, f_law_atoms, f_law_has_rule, f_law_read, f_law_is_set, f_law_told_sets_stay, f_law, f_Marks_d_iter, c_CHANGE_PLACES, c_EDIT_PLACES, c_RELATIONS, c_WORDS⟩) := fun base => ok_law_is_set T (G_Marks_d_init base) (G_Marks_d_ior base) (G_Book_d_setitem base)
  have G_law_told_sets_stay : ∀ base, FnD l.prog w K mg base 5 f_law_told_sets_stay (w_law_told_sets_stay ⟨C_BadBook, C_BadEngine, C_Book, C_Engine, C_Marks, f_law_tape, f_law_pick, f_law_some, f_law_one, f_law_kind_names, f_law_mark_names, f_law_turn, f_law_in_time, f_law_sources, f_is_name, f_are_distinct, f_are_names, f_split_source, f_Engine_checked, f_Engine_d_init, f_Marks_d_init, f_Marks_d_or, f_Marks_d_ior, f_Marks_d_len, f_law_distinct, f_law_alphabet, f_Book_d_init, f_Book_places, f_Book_has_rule, f_Book_is_way, f_Book_enters, f_Book_through, f_Book_d_getitem, f_Book_d_setitem, f_Book_atoms, f_law_engine, f_law_any_reads, f_law_places, f_law_any_atom, f_law_add, f_law_more, f_law_ways, f_law_fence, f_law_made_engine, f_law_made, f_law_rule, f_law_meets, f_law_atoms, f_law_has_rule, f_law_read, f_law_is_set, f_law_told_sets_stay, f_law, f_Marks_d_iter, c_CHANGE_PLACES, c_EDIT_PLACES, c_RELATIONS, c_WORDS⟩) := fun base => ok_law_told_sets_stay T (G_Book_enters base) (G_Marks_d_init base) (G_Marks_d_ior base) (G_Book_through base) (G_Marks_d_len base) (G_law_alphabet base) (G_Book_d_getitem base) (G_law_rule base) (GI_Marks T) (GL_Marks T)
  have F := fun_mk (st := s_law) l_law c_law k_law
  exact ⟨_, fun s v => .of_eq rfl, fun base _ _ => fn_law F sc_law fun cdv A outer s H E hr => ⟨B_law ⟨C_BadBook, C_BadEngine, C_Book, C_Engine, C_Marks, f_law_tape, f_law_pick, f_law_some, f_law_one, f_law_kind_names, f_law_mark_names, f_law_turn, f_law_in_time, f_law_sources, f_is_name, f_are_distinct, f_are_names, f_split_source, f_Engine_checked, f_Engine_d_init, f_Marks_d_init, f_Marks_d_or, f_Marks_d_ior, f_Marks_d_len, f_law_distinct, f_law_alphabet, f_Book_d_init, f_Book_places, f_Book_has_rule, f_Book_is_way, f_Book_enters, f_Book_through, f_Book_d_getitem, f_Book_d_setitem, f_Book_atoms, f_law_engine, f_law_any_reads, f_law_places, f_law_any_atom, f_law_add, f_law_more, f_law_ways, f_law_fence, f_law_made_engine, f_law_made, f_law_rule, f_law_meets, f_law_atoms, f_law_has_rule, f_law_read, f_law_is_set, f_law_told_sets_stay, f_law, f_Marks_d_iter, c_CHANGE_PLACES, c_EDIT_PLACES, c_RELATIONS, c_WORDS⟩, D_law T (G_law_tape base) (G_law_engine base) (G_law_any_reads base) (G_law_more base) (G_law_pick base) (G_law_fence base) (G_law_made base) (G_law_told_sets_stay base) (G_law_one base) (G_law_has_rule base) (G_law_read base) (G_law_alphabet base) (G_law_meets base) (G_law_ways base) (G_law_is_set base) (G_Book_atoms base) (G_law_atoms base) cdv A outer s H E hr, fun ds μ Ξ Φ h => read_law (a := ⟨C_BadBook, C_BadEngine, C_Book, C_Engine, C_Marks, f_law_tape, f_law_pick, f_law_some, f_law_one, f_law_kind_names, f_law_mark_names, f_law_turn, f_law_in_time, f_law_sources, f_is_name, f_are_distinct, f_are_names, f_split_source, f_Engine_checked, f_Engine_d_init, f_Marks_d_init, f_Marks_d_or, f_Marks_d_ior, f_Marks_d_len, f_law_distinct, f_law_alphabet, f_Book_d_init, f_Book_places, f_Book_has_rule, f_Book_is_way, f_Book_enters, f_Book_through, f_Book_d_getitem, f_Book_d_setitem, f_Book_atoms, f_law_engine, f_law_any_reads, f_law_places, f_law_any_atom, f_law_add, f_law_more, f_law_ways, f_law_fence, f_law_made_engine, f_law_made, f_law_rule, f_law_meets, f_law_atoms, f_law_has_rule, f_law_read, f_law_is_set, f_law_told_sets_stay, f_law, f_Marks_d_iter, c_CHANGE_PLACES, c_EDIT_PLACES, c_RELATIONS, c_WORDS⟩) ds μ Ξ Φ h⟩⟩
end Law
open PySem PySem.W PyProof.Rows in
set_option maxRecDepth 100000 in
set_option maxHeartbeats 0 in
theorem PySem.Challenge.cw_redomarks_k56_keys_and_sets_holds : PySem.Challenge.rw_redomarks_k56_keys_and_sets.Holds := by
  w_on; o_law; k_head; (case hw => w_witness2)
  k_fill
  refine DL.walk_D (l := PySem.Challenge.rw_redomarks_k56_keys_and_sets) (k := 7) rfl rfl ⟨rfl, by decide, by decide⟩ (fun w h Y => PySem.W.kIn_of Y) ?F
  case F =>
    intro w mg fa h KX G hmg
    refine' Law.all_mk KX G hmg ?a_BadBook ?x1_BadBook ?em_BadBook ?x2_BadBook ?x3_BadBook ?x4_BadBook ?a_BadEngine ?x1_BadEngine ?x2_BadEngine ?x3_BadEngine ?x4_BadEngine ?a_Book ?pg_Book ?hd_Book ?po_Book ?sa_Book ?ha_Book ?hm_Book ?sf_Book ?nf_Book ?mk_Book ?kc_Book ?a_Engine ?pg_Engine ?hd_Engine ?po_Engine ?sa_Engine ?ha_Engine ?hm_Engine ?sf_Engine ?nf_Engine ?mk_Engine ?kc_Engine ?a_Marks ?pg_Marks ?hd_Marks ?po_Marks ?sa_Marks ?ha_Marks ?hm_Marks ?sf_Marks ?nf_Marks ?mk_Marks ?kc_Marks ?ns_Book ?hn ?htk ?a_law_tape ?l_law_tape ?c_law_tape ?k_law_tape ?a_law_pick ?l_law_pick ?c_law_pick ?k_law_pick ?a_law_some ?l_law_some ?c_law_some ?k_law_some ?a_law_one ?l_law_one ?c_law_one ?k_law_one ?a_law_kind_names ?l_law_kind_names ?c_law_kind_names ?k_law_kind_names ?a_law_mark_names ?l_law_mark_names ?c_law_mark_names ?k_law_mark_names ?a_law_turn ?l_law_turn ?c_law_turn ?k_law_turn ?a_law_in_time ?l_law_in_time ?c_law_in_time ?k_law_in_time ?a_law_sources ?l_law_sources ?c_law_sources ?k_law_sources ?a_is_name ?l_is_name ?c_is_name ?k_is_name ?a_are_distinct ?l_are_distinct ?c_are_distinct ?k_are_distinct ?a_are_names ?l_are_names ?c_are_names ?k_are_names ?a_split_source ?l_split_source ?c_split_source ?k_split_source ?a_Engine_checked ?i_Engine_checked ?l_Engine_checked ?c_Engine_checked ?k_Engine_checked ?a_Engine_d_init ?i_Engine_d_init ?l_Engine_d_init ?c_Engine_d_init ?k_Engine_d_init ?a_Marks_d_init ?i_Marks_d_init ?l_Marks_d_init ?c_Marks_d_init ?k_Marks_d_init ?a_Marks_d_or ?i_Marks_d_or ?l_Marks_d_or ?c_Marks_d_or ?k_Marks_d_or ?a_Marks_d_ior ?i_Marks_d_ior ?l_Marks_d_ior ?c_Marks_d_ior ?k_Marks_d_ior ?a_Marks_d_len ?i_Marks_d_len ?l_Marks_d_len ?c_Marks_d_len ?k_Marks_d_len ?a_law_distinct ?l_law_distinct ?c_law_distinct ?k_law_distinct ?a_law_alphabet ?l_law_alphabet ?c_law_alphabet ?k_law_alphabet ?a_Book_d_init ?i_Book_d_init ?l_Book_d_init ?c_Book_d_init ?k_Book_d_init ?a_Book_places ?i_Book_places ?l_Book_places ?c_Book_places ?k_Book_places ?a_Book_has_rule ?i_Book_has_rule ?l_Book_has_rule ?c_Book_has_rule ?k_Book_has_rule ?a_Book_is_way ?i_Book_is_way ?l_Book_is_way ?c_Book_is_way ?k_Book_is_way ?a_Book_enters ?i_Book_enters ?l_Book_enters ?c_Book_enters ?k_Book_enters ?a_Book_through ?i_Book_through ?l_Book_through ?c_Book_through ?k_Book_through ?a_Book_d_getitem ?i_Book_d_getitem ?fi_Book_d_getitem ?l_Book_d_getitem ?c_Book_d_getitem ?k_Book_d_getitem ?a_Book_d_setitem ?i_Book_d_setitem ?l_Book_d_setitem ?c_Book_d_setitem ?k_Book_d_setitem ?a_Book_atoms ?i_Book_atoms ?l_Book_atoms ?c_Book_atoms ?k_Book_atoms ?a_law_engine ?l_law_engine ?c_law_engine ?k_law_engine ?a_law_any_reads ?l_law_any_reads ?c_law_any_reads ?k_law_any_reads ?a_law_places ?l_law_places ?c_law_places ?k_law_places ?a_law_any_atom ?l_law_any_atom ?c_law_any_atom ?k_law_any_atom ?a_law_add ?l_law_add ?c_law_add ?k_law_add ?a_law_more ?l_law_more ?c_law_more ?k_law_more ?a_law_ways ?l_law_ways ?c_law_ways ?k_law_ways ?a_law_fence ?l_law_fence ?c_law_fence ?k_law_fence ?a_law_made_engine ?l_law_made_engine ?c_law_made_engine ?k_law_made_engine ?a_law_made ?l_law_made ?c_law_made ?k_law_made ?a_law_rule ?l_law_rule ?c_law_rule ?k_law_rule ?a_law_meets ?l_law_meets ?c_law_meets ?k_law_meets ?a_law_atoms ?l_law_atoms ?c_law_atoms ?k_law_atoms ?a_law_has_rule ?l_law_has_rule ?c_law_has_rule ?k_law_has_rule ?a_law_read ?l_law_read ?c_law_read ?k_law_read ?a_law_is_set ?l_law_is_set ?c_law_is_set ?k_law_is_set ?a_law_told_sets_stay ?l_law_told_sets_stay ?c_law_told_sets_stay ?k_law_told_sets_stay ?a_law ?l_law ?c_law ?k_law ?a_Marks_d_iter ?i_Marks_d_iter ?l_Marks_d_iter ?c_Marks_d_iter ?k_Marks_d_iter ?n_Book_engine ?n_Book_marks ?n_Book_reads ?n_Book_rules ?n_Engine_attributes ?n_Engine_kinds ?n_Engine_passes ?n_Engine_table ?n_Marks_names ?a_CHANGE_PLACES ?l_CHANGE_PLACES ?a_EDIT_PLACES ?l_EDIT_PLACES ?a_LETTERS ?a_RELATIONS ?l_RELATIONS ?a_WORDS ?l_WORDS ?z_all ?z_any ?z_int ?z_isinstance ?z_iter ?z_len ?z_list ?z_min ?z_range ?z_sorted ?z_str ?z_tuple
    (case a_BadBook => k_is)
    (case x1_BadBook => k_exc)
    (case em_BadBook => kts_exm)
    (case x2_BadBook => k_is)
    (case x3_BadBook => k_is)
    (case x4_BadBook => k_is)
    (case a_BadEngine => k_is)
    (case x1_BadEngine => k_exc)
    (case x2_BadEngine => k_is)
    (case x3_BadEngine => k_is)
    (case x4_BadEngine => k_is)
    (case a_Book => k_is)
    (case pg_Book => k_is)
    (case hd_Book => k_is)
    (case po_Book => k_is)
    (case sa_Book => k_is)
    (case ha_Book => k_is)
    (case hm_Book => k_is)
    (case sf_Book => k_is)
    (case nf_Book => k_is)
    (case mk_Book => k_is)
    (case kc_Book => k_is)
    (case a_Engine => k_is)
    (case pg_Engine => k_is)
    (case hd_Engine => k_is)
    (case po_Engine => k_is)
    (case sa_Engine => k_is)
    (case ha_Engine => k_is)
    (case hm_Engine => k_is)
    (case sf_Engine => k_is)
    (case nf_Engine => k_is)
    (case mk_Engine => k_is)
    (case kc_Engine => k_is)
    (case a_Marks => k_is)
    (case pg_Marks => k_is)
    (case hd_Marks => k_is)
    (case po_Marks => k_is)
    (case sa_Marks => k_is)
    (case ha_Marks => k_is)
    (case hm_Marks => k_is)
    (case sf_Marks => k_is)
    (case nf_Marks => k_is)
    (case mk_Marks => k_is)
    (case kc_Marks => k_is)
    (case ns_Book => k_is)
    (case hn => k_is)
    (case htk => k_is)
    (case a_law_tape => k_is)
    (case l_law_tape => k_is)
    (case c_law_tape => k_is)
    (case k_law_tape => k_is)
    (case a_law_pick => k_is)
    (case l_law_pick => k_is)
    (case c_law_pick => k_is)
    (case k_law_pick => k_is)
    (case a_law_some => k_is)
    (case l_law_some => k_is)
    (case c_law_some => k_is)
    (case k_law_some => k_is)
    (case a_law_one => k_is)
    (case l_law_one => k_is)
    (case c_law_one => k_is)
    (case k_law_one => k_is)
    (case a_law_kind_names => k_is)
    (case l_law_kind_names => k_is)
    (case c_law_kind_names => k_is)
    (case k_law_kind_names => k_is)
    (case a_law_mark_names => k_is)
    (case l_law_mark_names => k_is)
    (case c_law_mark_names => k_is)
    (case k_law_mark_names => k_is)
    (case a_law_turn => k_is)
    (case l_law_turn => k_is)
    (case c_law_turn => k_is)
    (case k_law_turn => k_is)
    (case a_law_in_time => k_is)
    (case l_law_in_time => k_is)
    (case c_law_in_time => k_is)
    (case k_law_in_time => k_is)
    (case a_law_sources => k_is)
    (case l_law_sources => k_is)
    (case c_law_sources => k_is)
    (case k_law_sources => k_is)
    (case a_is_name => k_is)
    (case l_is_name => k_is)
    (case c_is_name => k_is)
    (case k_is_name => k_is)
    (case a_are_distinct => k_is)
    (case l_are_distinct => k_is)
    (case c_are_distinct => k_is)
    (case k_are_distinct => k_is)
    (case a_are_names => k_is)
    (case l_are_names => k_is)
    (case c_are_names => k_is)
    (case k_are_names => k_is)
    (case a_split_source => k_is)
    (case l_split_source => k_is)
    (case c_split_source => k_is)
    (case k_split_source => k_is)
    (case a_Engine_checked => k_is)
    (case i_Engine_checked => k_is)
    (case l_Engine_checked => k_is)
    (case c_Engine_checked => k_is)
    (case k_Engine_checked => k_is)
    (case a_Engine_d_init => k_is)
    (case i_Engine_d_init => k_is)
    (case l_Engine_d_init => k_is)
    (case c_Engine_d_init => k_is)
    (case k_Engine_d_init => k_is)
    (case a_Marks_d_init => k_is)
    (case i_Marks_d_init => k_is)
    (case l_Marks_d_init => k_is)
    (case c_Marks_d_init => k_is)
    (case k_Marks_d_init => k_is)
    (case a_Marks_d_or => k_is)
    (case i_Marks_d_or => k_is)
    (case l_Marks_d_or => k_is)
    (case c_Marks_d_or => k_is)
    (case k_Marks_d_or => k_is)
    (case a_Marks_d_ior => k_is)
    (case i_Marks_d_ior => k_is)
    (case l_Marks_d_ior => k_is)
    (case c_Marks_d_ior => k_is)
    (case k_Marks_d_ior => k_is)
    (case a_Marks_d_len => k_is)
    (case i_Marks_d_len => k_is)
    (case l_Marks_d_len => k_is)
    (case c_Marks_d_len => k_is)
    (case k_Marks_d_len => k_is)
    (case a_law_distinct => k_is)
    (case l_law_distinct => k_is)
    (case c_law_distinct => k_is)
    (case k_law_distinct => k_is)
    (case a_law_alphabet => k_is)
    (case l_law_alphabet => k_is)
    (case c_law_alphabet => k_is)
    (case k_law_alphabet => k_is)
    (case a_Book_d_init => k_is)
    (case i_Book_d_init => k_is)
    (case l_Book_d_init => k_is)
    (case c_Book_d_init => k_is)
    (case k_Book_d_init => k_is)
    (case a_Book_places => k_is)
    (case i_Book_places => k_is)
    (case l_Book_places => k_is)
    (case c_Book_places => k_is)
    (case k_Book_places => k_is)
    (case a_Book_has_rule => k_is)
    (case i_Book_has_rule => k_is)
    (case l_Book_has_rule => k_is)
    (case c_Book_has_rule => k_is)
    (case k_Book_has_rule => k_is)
    (case a_Book_is_way => k_is)
    (case i_Book_is_way => k_is)
    (case l_Book_is_way => k_is)
    (case c_Book_is_way => k_is)
    (case k_Book_is_way => k_is)
    (case a_Book_enters => k_is)
    (case i_Book_enters => k_is)
    (case l_Book_enters => k_is)
    (case c_Book_enters => k_is)
    (case k_Book_enters => k_is)
    (case a_Book_through => k_is)
    (case i_Book_through => k_is)
    (case l_Book_through => k_is)
    (case c_Book_through => k_is)
    (case k_Book_through => k_is)
    (case a_Book_d_getitem => k_is)
    (case i_Book_d_getitem => k_is)
    (case fi_Book_d_getitem => k_is)
    (case l_Book_d_getitem => k_is)
    (case c_Book_d_getitem => k_is)
    (case k_Book_d_getitem => k_is)
    (case a_Book_d_setitem => k_is)
    (case i_Book_d_setitem => k_is)
    (case l_Book_d_setitem => k_is)
    (case c_Book_d_setitem => k_is)
    (case k_Book_d_setitem => k_is)
    (case a_Book_atoms => k_is)
    (case i_Book_atoms => k_is)
    (case l_Book_atoms => k_is)
    (case c_Book_atoms => k_is)
    (case k_Book_atoms => k_is)
    (case a_law_engine => k_is)
    (case l_law_engine => k_is)
    (case c_law_engine => k_is)
    (case k_law_engine => k_is)
    (case a_law_any_reads => k_is)
    (case l_law_any_reads => k_is)
    (case c_law_any_reads => k_is)
    (case k_law_any_reads => k_is)
    (case a_law_places => k_is)
    (case l_law_places => k_is)
    (case c_law_places => k_is)
    (case k_law_places => k_is)
    (case a_law_any_atom => k_is)
    (case l_law_any_atom => k_is)
    (case c_law_any_atom => k_is)
    (case k_law_any_atom => k_is)
    (case a_law_add => k_is)
    (case l_law_add => k_is)
    (case c_law_add => k_is)
    (case k_law_add => k_is)
    (case a_law_more => k_is)
    (case l_law_more => k_is)
    (case c_law_more => k_is)
    (case k_law_more => k_is)
    (case a_law_ways => k_is)
    (case l_law_ways => k_is)
    (case c_law_ways => k_is)
    (case k_law_ways => k_is)
    (case a_law_fence => k_is)
    (case l_law_fence => k_is)
    (case c_law_fence => k_is)
    (case k_law_fence => k_is)
    (case a_law_made_engine => k_is)
    (case l_law_made_engine => k_is)
    (case c_law_made_engine => k_is)
    (case k_law_made_engine => k_is)
    (case a_law_made => k_is)
    (case l_law_made => k_is)
    (case c_law_made => k_is)
    (case k_law_made => k_is)
    (case a_law_rule => k_is)
    (case l_law_rule => k_is)
    (case c_law_rule => k_is)
    (case k_law_rule => k_is)
    (case a_law_meets => k_is)
    (case l_law_meets => k_is)
    (case c_law_meets => k_is)
    (case k_law_meets => k_is)
    (case a_law_atoms => k_is)
    (case l_law_atoms => k_is)
    (case c_law_atoms => k_is)
    (case k_law_atoms => k_is)
    (case a_law_has_rule => k_is)
    (case l_law_has_rule => k_is)
    (case c_law_has_rule => k_is)
    (case k_law_has_rule => k_is)
    (case a_law_read => k_is)
    (case l_law_read => k_is)
    (case c_law_read => k_is)
    (case k_law_read => k_is)
    (case a_law_is_set => k_is)
    (case l_law_is_set => k_is)
    (case c_law_is_set => k_is)
    (case k_law_is_set => k_is)
    (case a_law_told_sets_stay => k_is)
    (case l_law_told_sets_stay => k_is)
    (case c_law_told_sets_stay => k_is)
    (case k_law_told_sets_stay => k_is)
    (case a_law => k_is)
    (case l_law => k_is)
    (case c_law => k_is)
    (case k_law => k_is)
    (case a_Marks_d_iter => k_is)
    (case i_Marks_d_iter => k_is)
    (case l_Marks_d_iter => k_is)
    (case c_Marks_d_iter => k_is)
    (case k_Marks_d_iter => k_is)
    (case n_Book_engine => k_is)
    (case n_Book_marks => k_is)
    (case n_Book_reads => k_is)
    (case n_Book_rules => k_is)
    (case n_Engine_attributes => k_is)
    (case n_Engine_kinds => k_is)
    (case n_Engine_passes => k_is)
    (case n_Engine_table => k_is)
    (case n_Marks_names => k_is)
    (case a_CHANGE_PLACES => k_is)
    (case l_CHANGE_PLACES => k_is)
    (case a_EDIT_PLACES => k_is)
    (case l_EDIT_PLACES => k_is)
    (case a_LETTERS => k_is)
    (case a_RELATIONS => k_is)
    (case l_RELATIONS => k_is)
    (case a_WORDS => k_is)
    (case l_WORDS => k_is)
    (case z_all => k_is)
    (case z_any => k_is)
    (case z_int => k_is)
    (case z_isinstance => k_is)
    (case z_iter => k_is)
    (case z_len => k_is)
    (case z_list => k_is)
    (case z_min => k_is)
    (case z_range => k_is)
    (case z_sorted => k_is)
    (case z_str => k_is)
    (case z_tuple => k_is)

