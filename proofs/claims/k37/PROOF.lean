import PyProof.Rows.All
import Wide.All
import OpenK.AllK
import Wide.FinOn
import HandS.ForMost
import HandS.ForExc
import HandS.Walk
import KE.GoesEnum
import HandS.TupMul
import HandS.TupAny
import HandS.Wide
import HandS.WideBits
import HandS.Style
import HandS.IsInst
import KE.LtData
import KE.SortData
import KE.DataEq
import HandS.More
import HandS.CallLocal
import HandS.EndBits
import PySem.Challenge.RW_stripelay_k37_ways_between_cloths
set_option Elab.async false
set_option linter.all false
set_option maxRecDepth 100000
set_option maxHeartbeats 4000000
/-! DL, part a: plain data, what stands for it, environments of slots, the judgements. -/
namespace DL
open PySem PySem.Spec L2

/-- plain data -/
inductive D where
  | non | bl (b : Bool) | int (i : Int) | str (s : Str)
  | tup (ds : List D) | lst (ds : List D) | klst (ds : List D)
  | dic (kvs : List (Key × D))
  | ins (C : Addr) (fs : List (Str × D))
  | ref (a : Addr) | ty (n : String)

/-- a list, a dict that is read and never changed again -/
def FzL (_ : PySem.W.Frag) (H : Hp) (a : Addr) (xs : List V) : Prop := ∃ o, H a = some (.frz o (.lst xs))
/-- a list that is read as a sequence alone: frozen, or an object of the written part -/
def FzS (K : PySem.W.Frag) (H : Hp) (a : Addr) (xs : List V) : Prop := (∃ o, H a = some (.frz o (.lst xs))) ∨
  ∃ (o : Obj) (its : Array Value) (n : Nat), K.lookup a = some o ∧ o.cls = .type "list" ∧ o.dict = none ∧ o.data = .seq its n ∧ its.size ≤ sizeLine ∧ Vals xs its.toList
theorem FzS.sq {K : PySem.W.Frag} {H : Hp} {a : Addr} {xs : List V} (h : FzS K H a xs) : SqL K H a xs := h.imp (fun h => .inr h) id
def FzD (H : Hp) (a : Addr) (kvs : List (Key × V)) : Prop := ∃ o, H a = some (.frz o (.dK kvs))
theorem FzL.rd {K : PySem.W.Frag} {H : Hp} {a : Addr} {xs : List V} (h : FzL K H a xs) : Rd H a (.lst xs) := .inr h
theorem FzL.sq {K : PySem.W.Frag} {H : Hp} {a : Addr} {xs : List V} (h : FzL K H a xs) : SqL K H a xs := .inl h.rd

mutual
inductive Rep (K : PySem.W.Frag) (ι : Addr → Nat → Prop) (H : Hp) : D → V → Prop
  | non : Rep K ι H .non .non
  | bl (b : Bool) : Rep K ι H (.bl b) (.bl b)
  | int (i : Int) : Rep K ι H (.int i) (.int i)
  | str (s : Str) : Rep K ι H (.str s) (.str s)
  | ref (a : Addr) : Rep K ι H (.ref a) (.ref a)
  | ty (n : String) : Rep K ι H (.ty n) (.ty n)
  | tup {a : Addr} {vs : List V} {ds : List D} : SqT K H a vs → Reps K ι H ds vs → Rep K ι H (.tup ds) (.ref a)
  | lst {a : Addr} {vs : List V} {ds : List D} : FzL K H a vs → Reps K ι H ds vs → Rep K ι H (.lst ds) (.ref a)
  | klst {a : Addr} {vs : List V} {ds : List D} : FzS K H a vs → Reps K ι H ds vs → Rep K ι H (.klst ds) (.ref a)
  | dic {a : Addr} {kvs' : List (Key × V)} {kvs : List (Key × D)} : FzD H a kvs' → RepK K ι H kvs kvs' → Rep K ι H (.dic kvs) (.ref a)
  | ins {a C dx : Addr} {fs' : List (Str × V)} {fs : List (Str × D)} : H a = some (.ins C dx fs') → ι C fs'.length → RepF K ι H fs fs' → Rep K ι H (.ins C fs) (.ref a)
inductive Reps (K : PySem.W.Frag) (ι : Addr → Nat → Prop) (H : Hp) : List D → List V → Prop
  | nil : Reps K ι H [] []
  | cons {d : D} {v : V} {ds : List D} {vs : List V} : Rep K ι H d v → Reps K ι H ds vs → Reps K ι H (d :: ds) (v :: vs)
inductive RepK (K : PySem.W.Frag) (ι : Addr → Nat → Prop) (H : Hp) : List (Key × D) → List (Key × V) → Prop
  | nil : RepK K ι H [] []
  | cons {k : Key} {d : D} {v : V} {ds : List (Key × D)} {vs : List (Key × V)} : Rep K ι H d v → RepK K ι H ds vs → RepK K ι H ((k, d) :: ds) ((k, v) :: vs)
inductive RepF (K : PySem.W.Frag) (ι : Addr → Nat → Prop) (H : Hp) : List (Str × D) → List (Str × V) → Prop
  | nil : RepF K ι H [] []
  | cons {k : Str} {d : D} {v : V} {ds : List (Str × D)} {vs : List (Str × V)} : Rep K ι H d v → RepF K ι H ds vs → RepF K ι H ((k, d) :: ds) ((k, v) :: vs)
end

/-- what never changes -/
def Im (ι : Addr → Nat → Prop) : HO → Prop
  | .tup _ => True
  | .frz _ _ => True
  | .ins C _ fs => ι C fs.length
  | .own _ => True
  | .rng _ _ => True
  | .met _ _ => True
  | .xd _ => True
  | _ => False
def Kp (ι : Addr → Nat → Prop) (H H' : Hp) : Prop := ∀ b o, H b = some o → Im ι o → H' b = some o
theorem Kp.refl {ι : Addr → Nat → Prop} {H : Hp} : Kp ι H H := fun _ _ h _ => h
theorem Kp.trans {ι : Addr → Nat → Prop} {H H1 H2 : Hp} (a : Kp ι H H1) (b : Kp ι H1 H2) : Kp ι H H2 := fun c o h i => b c o (a c o h i) i
theorem _root_.L2.Same.kp {ι : Addr → Nat → Prop} {H H' : Hp} (h : Same H H') : Kp ι H H' := fun b o e _ => h b o e

section
variable {K : PySem.W.Frag} {ι : Addr → Nat → Prop} {H H' : Hp}
theorem Kp.sqT {a : Addr} {xs : List V} (k : Kp ι H H') (h : SqT K H a xs) : SqT K H' a xs := by
  rcases h with (h | ⟨o, h⟩) | h
  · exact .inl (.inl (k _ _ h trivial))
  · exact .inl (.inr ⟨o, k _ _ h trivial⟩)
  · exact .inr h
theorem Kp.fzL {a : Addr} {xs : List V} (k : Kp ι H H') (h : FzL K H a xs) : FzL K H' a xs := by
  obtain ⟨o, h⟩ := h
  exact ⟨o, k _ _ h trivial⟩
theorem Kp.fzS {a : Addr} {xs : List V} (k : Kp ι H H') (h : FzS K H a xs) : FzS K H' a xs := h.imp (fun ⟨o, h⟩ => ⟨o, k _ _ h trivial⟩) id
theorem Kp.fzD {a : Addr} {xs : List (Key × V)} (k : Kp ι H H') (h : FzD H a xs) : FzD H' a xs := by
  obtain ⟨o, h⟩ := h
  exact ⟨o, k _ _ h trivial⟩
mutual
theorem Rep.mono (k : Kp ι H H') : ∀ {d : D} {v : V}, Rep K ι H d v → Rep K ι H' d v
  | _, _, .non => .non
  | _, _, .bl b => .bl b
  | _, _, .int b => .int b
  | _, _, .str b => .str b
  | _, _, .ref b => .ref b
  | _, _, .ty b => .ty b
  | _, _, .tup h r => .tup (k.sqT h) (Reps.mono k r)
  | _, _, .lst h r => .lst (k.fzL h) (Reps.mono k r)
  | _, _, .klst h r => .klst (k.fzS h) (Reps.mono k r)
  | _, _, .dic h r => .dic (k.fzD h) (RepK.mono k r)
  | _, _, .ins h i r => .ins (k _ _ h i) i (RepF.mono k r)
theorem Reps.mono (k : Kp ι H H') : ∀ {d : List D} {v : List V}, Reps K ι H d v → Reps K ι H' d v
  | _, _, .nil => .nil
  | _, _, .cons h r => .cons (Rep.mono k h) (Reps.mono k r)
theorem RepK.mono (k : Kp ι H H') : ∀ {d : List (Key × D)} {v : List (Key × V)}, RepK K ι H d v → RepK K ι H' d v
  | _, _, .nil => .nil
  | _, _, .cons h r => .cons (Rep.mono k h) (RepK.mono k r)
theorem RepF.mono (k : Kp ι H H') : ∀ {d : List (Str × D)} {v : List (Str × V)}, RepF K ι H d v → RepF K ι H' d v
  | _, _, .nil => .nil
  | _, _, .cons h r => .cons (Rep.mono k h) (RepF.mono k r)
end
theorem Reps.length : ∀ {d : List D} {v : List V}, Reps K ι H d v → v.length = d.length
  | _, _, .nil => rfl
  | _, _, .cons _ r => by rw [List.length_cons, List.length_cons, Reps.length r]
theorem RepK.length : ∀ {d : List (Key × D)} {v : List (Key × V)}, RepK K ι H d v → v.length = d.length
  | _, _, .nil => rfl
  | _, _, .cons _ r => by rw [List.length_cons, List.length_cons, RepK.length r]
theorem RepF.length : ∀ {d : List (Str × D)} {v : List (Str × V)}, RepF K ι H d v → v.length = d.length
  | _, _, .nil => rfl
  | _, _, .cons _ r => by rw [List.length_cons, List.length_cons, RepF.length r]
theorem Reps.get : ∀ {ds : List D} {vs : List V} {i : Nat} {d : D}, Reps K ι H ds vs → ds[i]? = some d → ∃ v, vs[i]? = some v ∧ Rep K ι H d v
  | _, _, _, _, .nil, e => by simp at e
  | _, _, 0, _, .cons h r, e => by simp at e; subst e; exact ⟨_, rfl, h⟩
  | _, _, i + 1, _, .cons h r, e => by
    obtain ⟨v, h1, h2⟩ := Reps.get (i := i) r (by simpa using e)
    exact ⟨v, by simpa using h1, h2⟩
theorem Reps.getV : ∀ {ds : List D} {vs : List V} {i : Nat} {v : V}, Reps K ι H ds vs → vs[i]? = some v → ∃ d, ds[i]? = some d ∧ Rep K ι H d v
  | _, _, _, _, .nil, e => by simp at e
  | _, _, 0, _, .cons h r, e => by simp at e; subst e; exact ⟨_, rfl, h⟩
  | _, _, i + 1, _, .cons h r, e => by
    obtain ⟨v, h1, h2⟩ := Reps.getV (i := i) r (by simpa using e)
    exact ⟨v, by simpa using h1, h2⟩
theorem Reps.append : ∀ {ds es : List D} {vs us : List V}, Reps K ι H ds vs → Reps K ι H es us → Reps K ι H (ds ++ es) (vs ++ us)
  | _, _, _, _, .nil, s => s
  | _, _, _, _, .cons h r, s => .cons h (Reps.append r s)
theorem Reps.take : ∀ {ds : List D} {vs : List V} (n : Nat), Reps K ι H ds vs → Reps K ι H (ds.take n) (vs.take n)
  | _, _, 0, _ => by rw [List.take_zero, List.take_zero]; exact .nil
  | _, _, n + 1, .nil => .nil
  | _, _, n + 1, .cons h r => .cons h (Reps.take n r)
theorem Reps.drop : ∀ {ds : List D} {vs : List V} (n : Nat), Reps K ι H ds vs → Reps K ι H (ds.drop n) (vs.drop n)
  | _, _, 0, r => r
  | _, _, n + 1, .nil => .nil
  | _, _, n + 1, .cons h r => Reps.drop n r
theorem Reps.reverse {ds : List D} {vs : List V} (h : Reps K ι H ds vs) : Reps K ι H ds.reverse vs.reverse := by
  induction ds generalizing vs with
  | nil => cases h; exact .nil
  | cons d ds ih =>
    cases h with
    | cons h r =>
      rw [List.reverse_cons, List.reverse_cons]
      exact (ih r).append (.cons h .nil)
theorem Reps.set {d : D} {v : V} (h : Rep K ι H d v) : ∀ {ds : List D} {vs : List V} (i : Nat), Reps K ι H ds vs → Reps K ι H (ds.set i d) (vs.set i v)
  | _, _, _, .nil => .nil
  | _, _, 0, .cons _ r => .cons h r
  | _, _, i + 1, .cons h' r => .cons h' (Reps.set h i r)
theorem Reps.snoc {d : D} {v : V} {ds : List D} {vs : List V} (r : Reps K ι H ds vs) (h : Rep K ι H d v) : Reps K ι H (ds ++ [d]) (vs ++ [v]) := r.append (.cons h .nil)
theorem Reps.rep {ds : List D} {vs : List V} (r : Reps K ι H ds vs) : ∀ k : Nat, Reps K ι H (List.replicate k ds).flatten (List.replicate k vs).flatten
  | 0 => .nil
  | k + 1 => by rw [List.replicate_succ, List.replicate_succ, List.flatten_cons, List.flatten_cons]; exact r.append (Reps.rep r k)
theorem RepF.lookup {f : Str} {d : D} : ∀ {fs : List (Str × D)} {fs' : List (Str × V)}, RepF K ι H fs fs' → fs.lookup f = some d → ∃ v, fs'.lookup f = some v ∧ Rep K ι H d v
  | _, _, .nil, e => by simp at e
  | _, _, .cons (k := k) h r, e => by
    rw [List.lookup_cons] at e ⊢
    cases hk : (f == k) with
    | true => rw [hk] at e; simp at e; subst e; exact ⟨_, rfl, h⟩
    | false => rw [hk] at e; exact RepF.lookup r e
theorem RepF.lookup_none {f : Str} : ∀ {fs : List (Str × D)} {fs' : List (Str × V)}, RepF K ι H fs fs' → fs.lookup f = none → fs'.lookup f = none
  | _, _, .nil, e => rfl
  | _, _, .cons (k := k) h r, e => by
    rw [List.lookup_cons] at e ⊢
    cases hk : (f == k) with
    | true => rw [hk] at e; simp at e
    | false => rw [hk] at e; exact RepF.lookup_none r e
theorem Reps.strs : ∀ {ss : List Str} {vs : List V}, Reps K ι H (ss.map D.str) vs → vs = ss.map V.str
  | [], _, .nil => rfl
  | s :: ss, _, .cons h r => by cases h; rw [List.map_cons, Reps.strs r]
theorem Reps.ints : ∀ {ss : List Int} {vs : List V}, Reps K ι H (ss.map D.int) vs → vs = ss.map V.int
  | [], _, .nil => rfl
  | s :: ss, _, .cons h r => by cases h; rw [List.map_cons, Reps.ints r]
theorem Reps.bls : ∀ {ss : List Bool} {vs : List V}, Reps K ι H (ss.map D.bl) vs → vs = ss.map V.bl
  | [], _, .nil => rfl
  | s :: ss, _, .cons h r => by cases h; rw [List.map_cons, Reps.bls r]
theorem reps_strs : ∀ {ss : List Str}, Reps K ι H (ss.map D.str) (ss.map V.str)
  | [] => .nil
  | s :: ss => .cons (.str s) reps_strs
theorem reps_ints : ∀ {ss : List Int}, Reps K ι H (ss.map D.int) (ss.map V.int)
  | [] => .nil
  | s :: ss => .cons (.int s) reps_ints
end

/-- own mutable things -/
inductive M where
  | lst (ds : List D) | dic (kvs : List (Key × D)) | ins (C : Addr) (fs : List (Str × D))
def M.toD : M → D
  | .lst ds => .lst ds
  | .dic kvs => .dic kvs
  | .ins C fs => .ins C fs
inductive Slot where
  | un | im (d : D) | ow (m : M) | mu (m : M)
def MRep (K : PySem.W.Frag) (ι : Addr → Nat → Prop) (H : Hp) (p : Addr) : M → Prop
  | .lst ds => ∃ vs, H p = some (.lst vs) ∧ Reps K ι H ds vs
  | .dic kvs => ∃ kvs', H p = some (.dK kvs') ∧ RepK K ι H kvs kvs'
  | .ins C fs => ∃ dx fs', H p = some (.ins C dx fs') ∧ RepF K ι H fs fs'
def SlotOk (K : PySem.W.Frag) (ι : Addr → Nat → Prop) (H : Hp) : Slot → Option (Option V) → Prop
  | .un, _ => True
  | .im d, o => ∃ v, o = some (some v) ∧ Rep K ι H d v
  | .ow m, o => ∃ p, o = some (some (.ref p)) ∧ MRep K ι H p m
  | .mu m, o => ∃ p, o = some (some (.ref p)) ∧ MRep K ι H p m
def isOwn : Option Slot → Prop
  | some (.ow _) => True
  | some (.mu _) => True
  | _ => False
structure EnvR (K : PySem.W.Frag) (ι : Addr → Nat → Prop) (H : Hp) (σ : St) (Γ : List Slot) : Prop where
  len : σ.length = Γ.length
  ok : ∀ (i : Nat) (s : Slot), Γ[i]? = some s → SlotOk K ι H s σ[i]?
/-- the heap at a def's entry, the addresses of what was handed in to be changed, by slots -/
structure Cf where
  H0 : Hp
  P : Nat → Option Addr
structure EnvOk (K : PySem.W.Frag) (ι : Addr → Nat → Prop) (C : Cf) (H : Hp) (σ : St) (Γ : List Slot) : Prop extends EnvR K ι H σ Γ where
  dis : ∀ (i j : Nat) (p : Addr), i ≠ j → isOwn Γ[i]? → isOwn Γ[j]? → σ[i]? = some (some (.ref p)) → σ[j]? = some (some (.ref p)) → False
  new : ∀ (i : Nat) (m : M) (p : Addr), Γ[i]? = some (.ow m) → σ[i]? = some (some (.ref p)) → C.H0 p = none
  mus : ∀ (i : Nat) (m : M) (p : Addr), Γ[i]? = some (.mu m) → σ[i]? = some (some (.ref p)) → C.P i = some p
  muP : ∀ (i : Nat) (p : Addr), C.P i = some p → ∃ m, Γ[i]? = some (.mu m)
  fr : ∀ (b : Addr) (o : HO), C.H0 b = some o → (Im ι o ∨ ∀ i, C.P i ≠ some b) → H b = some o
  tr : ∀ (b : Addr) (o : HO), C.H0 b = some o → ∃ o', H b = some o'
def OwnedBy (σ : St) (Γ : List Slot) (b : Addr) : Prop := ∃ i : Nat, isOwn Γ[i]? ∧ σ[i]? = some (some (.ref b))
/-- all is kept but what the environment owns and may change -/
structure FrE (ι : Addr → Nat → Prop) (σ : St) (Γ : List Slot) (H H' : Hp) : Prop where
  keep : ∀ (b : Addr) (o : HO), H b = some o → (Im ι o ∨ ¬ OwnedBy σ Γ b) → H' b = some o
  tr : ∀ (b : Addr) (o : HO), H b = some o → ∃ o', H' b = some o'

section
variable {K : PySem.W.Frag} {ι : Addr → Nat → Prop} {H H' H1 H2 : Hp} {σ : St} {Γ Γ' : List Slot} {C : Cf}
theorem FrE.kp (h : FrE ι σ Γ H H') : Kp ι H H' := fun b o e i => h.keep b o e (.inl i)
theorem _root_.L2.Same.frE (h : Same H H') : FrE ι σ Γ H H' := ⟨fun b o e _ => h b o e, fun b o e => ⟨o, h b o e⟩⟩
theorem MRep.same {p : Addr} {m : M} (h : MRep K ι H p m) (k : Kp ι H H') (e : ∀ o, H p = some o → H' p = some o) : MRep K ι H' p m := by
  cases m with
  | lst ds => obtain ⟨vs, h, r⟩ := h; exact ⟨vs, e _ h, r.mono k⟩
  | dic ds => obtain ⟨vs, h, r⟩ := h; exact ⟨vs, e _ h, r.mono k⟩
  | ins C fs => obtain ⟨dx, vs, h, r⟩ := h; exact ⟨dx, vs, e _ h, r.mono k⟩
theorem MRep.there {p : Addr} {m : M} (h : MRep K ι H p m) : ∃ o, H p = some o := by
  cases m with
  | lst ds => obtain ⟨vs, h, r⟩ := h; exact ⟨_, h⟩
  | dic ds => obtain ⟨vs, h, r⟩ := h; exact ⟨_, h⟩
  | ins C fs => obtain ⟨dx, vs, h, r⟩ := h; exact ⟨_, h⟩
theorem SlotOk.same {s : Slot} {o : Option (Option V)} (h : SlotOk K ι H s o) (k : Same H H') : SlotOk K ι H' s o := by
  cases s with
  | un => trivial
  | im d => obtain ⟨v, e, r⟩ := h; exact ⟨v, e, r.mono k.kp⟩
  | ow m => obtain ⟨v, e, r⟩ := h; exact ⟨v, e, r.same k.kp fun o => k _ o⟩
  | mu m => obtain ⟨v, e, r⟩ := h; exact ⟨v, e, r.same k.kp fun o => k _ o⟩
theorem EnvR.same (h : EnvR K ι H σ Γ) (k : Same H H') : EnvR K ι H' σ Γ := ⟨h.len, fun i s e => (h.ok i s e).same k⟩
theorem EnvOk.same (h : EnvOk K ι C H σ Γ) (k : Same H H') : EnvOk K ι C H' σ Γ := ⟨h.toEnvR.same k, h.dis, h.new, h.mus, h.muP, fun b o e i => k _ _ (h.fr b o e i), fun b o e => let ⟨o', e'⟩ := h.tr b o e; ⟨o', k _ _ e'⟩⟩
theorem EnvR.owned (h : EnvR K ι H σ Γ) {b : Addr} (o : OwnedBy σ Γ b) : ∃ x, H b = some x := by
  obtain ⟨i, w, e⟩ := o
  cases hs : Γ[i]? with
  | none => rw [hs] at w; exact w.elim
  | some s =>
    have q := h.ok i s hs
    rw [hs] at w
    cases s with
    | un => exact w.elim
    | im d => exact w.elim
    | ow m => obtain ⟨p, e', r⟩ := q; rw [e] at e'; cases e'; exact r.there
    | mu m => obtain ⟨p, e', r⟩ := q; rw [e] at e'; cases e'; exact r.there
end

/-- what an expression comes to: data that stays; a thing of its own, new; a thing owned by a slot, as it stands now -/
inductive R where
  | im (d : D) | ow (m : M) | vo (m : M)
def RV (K : PySem.W.Frag) (ι : Addr → Nat → Prop) (H : Hp) : R → V → Prop
  | .im d, v => Rep K ι H d v
  | .ow m, v => ∃ p, v = .ref p ∧ MRep K ι H p m
  | .vo m, v => ∃ p, v = .ref p ∧ MRep K ι H p m
def ROk (K : PySem.W.Frag) (ι : Addr → Nat → Prop) (H H' : Hp) : R → V → Prop
  | .im d, v => Rep K ι H' d v
  | .ow m, v => ∃ p, v = .ref p ∧ H p = none ∧ MRep K ι H' p m
  | .vo m, v => ∃ p, v = .ref p ∧ MRep K ι H' p m
theorem ROk.rv {K : PySem.W.Frag} {ι : Addr → Nat → Prop} {H H' : Hp} {r : R} {v : V} (h : ROk K ι H H' r v) : RV K ι H' r v := by
  cases r with
  | im d => exact h
  | ow m => obtain ⟨p, e, _, q⟩ := h; exact ⟨p, e, q⟩
  | vo m => exact h
theorem RV.same {K : PySem.W.Frag} {ι : Addr → Nat → Prop} {H H' : Hp} {r : R} {v : V} (h : RV K ι H r v) (k : Same H H') : RV K ι H' r v := by
  cases r with
  | im d => exact h.mono k.kp
  | ow m => obtain ⟨p, e, q⟩ := h; exact ⟨p, e, q.same k.kp fun o => k _ o⟩
  | vo m => obtain ⟨p, e, q⟩ := h; exact ⟨p, e, q.same k.kp fun o => k _ o⟩
theorem ROk.same {K : PySem.W.Frag} {ι : Addr → Nat → Prop} {H H' H2 : Hp} {r : R} {v : V} (h : ROk K ι H H' r v) (k : Same H' H2) : ROk K ι H H2 r v := by
  cases r with
  | im d => exact Rep.mono k.kp h
  | ow m => obtain ⟨p, e, n, q⟩ := h; exact ⟨p, e, n, q.same k.kp fun o => k _ o⟩
  | vo m => obtain ⟨p, e, q⟩ := h; exact ⟨p, e, q.same k.kp fun o => k _ o⟩
theorem ROk.older {K : PySem.W.Frag} {ι : Addr → Nat → Prop} {H H1 H2 : Hp} {r : R} {v : V} (h : ROk K ι H1 H2 r v) (k : Same H H1) : ROk K ι H H2 r v := by
  cases r with
  | im d => exact h
  | ow m => obtain ⟨p, e, n, q⟩ := h; exact ⟨p, e, k.free n, q⟩
  | vo m => exact h

/-! ### weakest readings -/
def WE (X : Cx) (e : Expr) : TE := fun σ H Q => ∀ (pins : List (Addr × Obj)) (s : Shared), Inv X pins σ H s → wpAny (model X.prog X.w) X.A (eval e X.env) (EP X pins σ Q) X.xe s
theorem pe_we (X : Cx) (e : Expr) : PE X e (WE X e) := ⟨fun pins s σ H Q I h => h pins s I⟩
theorem WE.of {X : Cx} {e : Expr} {t : TE} {σ : St} {H : Hp} {Q : VK} (h : PE X e t) (q : t σ H Q) : WE X e σ H Q := fun pins s I => h.run pins s σ H Q I q
theorem EP.mono {X : Cx} {pins : List (Addr × Obj)} {σ : St} {Q Q' : VK} {u : Value} {s : Shared} (h : EP X pins σ Q u s) (q : ∀ v H, Q v H → Q' v H) : EP X pins σ Q' u s := by
  obtain ⟨v, H', I, r, z⟩ := h
  exact ⟨v, H', I, r, q _ _ z⟩
theorem WE.mono {X : Cx} {e : Expr} {σ : St} {H : Hp} {Q Q' : VK} (h : WE X e σ H Q) (q : ∀ v H, Q v H → Q' v H) : WE X e σ H Q' := fun pins s I => thn (h pins s I) fun _ _ z => EP.mono z q
def WT (X : Cx) (e : Expr) : TT := fun σ H Q => ∀ (pins : List (Addr × Obj)) (s : Shared), Inv X pins σ H s → wpAny (model X.prog X.w) X.A (isTrue e X.env (eval e X.env)) (TP X pins σ Q) X.xe s
theorem pt_wt (X : Cx) (e : Expr) : PT X e (WT X e) := ⟨fun pins s σ H Q I h => h pins s I⟩
theorem WT.of {X : Cx} {e : Expr} {t : TT} {σ : St} {H : Hp} {Q : Bool → Hp → Prop} (h : PT X e t) (q : t σ H Q) : WT X e σ H Q := fun pins s I => h.run pins s σ H Q I q
theorem WT.mono {X : Cx} {e : Expr} {σ : St} {H : Hp} {Q Q' : Bool → Hp → Prop} (h : WT X e σ H Q) (q : ∀ v H, Q v H → Q' v H) : WT X e σ H Q' := fun pins s I => thn (h pins s I) fun _ _ ⟨H', I', z⟩ => ⟨H', I', q _ _ z⟩
def WA (X : Cx) (es : List Expr) : TA := fun σ H Q => ∀ (pos : Pos) (pins : List (Addr × Obj)) (s : Shared), Inv X pins σ H s → wpAny (model X.prog X.w) X.A (spliced (backTo pos (starEach es X.env))) (AP X pins σ Q) X.xe s
theorem pa_wa (X : Cx) (es : List Expr) : PA X es (WA X es) := ⟨fun pos pins s σ H Q I h => h pos pins s I⟩
theorem WA.of {X : Cx} {es : List Expr} {t : TA} {σ : St} {H : Hp} {Q : List V → Hp → Prop} (h : PA X es t) (q : t σ H Q) : WA X es σ H Q := fun pos pins s I => h.run pos pins s σ H Q I q
theorem WA.mono {X : Cx} {e : List Expr} {σ : St} {H : Hp} {Q Q' : List V → Hp → Prop} (h : WA X e σ H Q) (q : ∀ v H, Q v H → Q' v H) : WA X e σ H Q' := fun pos pins s I => thn (h pos pins s I) fun _ _ ⟨v, H', I', r, z⟩ => ⟨v, H', I', r, q _ _ z⟩
def WS (X : Cx) (st : Stmt) : TS := fun D σ H => ∀ (pins : List (Addr × Obj)) (s : Shared), Inv X pins σ H s → wpAny (model X.prog X.w) X.A (exec st X.env) (SP X pins D) X.xe s
theorem ps_ws (X : Cx) (st : Stmt) : PS X st (WS X st) := ⟨fun pins s σ H D I h => h pins s I⟩
theorem WS.of {X : Cx} {st : Stmt} {t : TS} {σ : St} {H : Hp} {E : Ends} (h : PS X st t) (q : t E σ H) : WS X st E σ H := fun pins s I => h.run pins s σ H E I q
def WSs (X : Cx) (st : List Stmt) : TS := fun D σ H => ∀ (pins : List (Addr × Obj)) (s : Shared), Inv X pins σ H s → wpAny (model X.prog X.w) X.A (execs st X.env) (SP X pins D) X.xe s
theorem pss_ws (X : Cx) (st : List Stmt) : PSs X st (WSs X st) := ⟨fun pins s σ H D I h => h pins s I⟩
theorem WSs.of {X : Cx} {st : List Stmt} {t : TS} {σ : St} {H : Hp} {E : Ends} (h : PSs X st t) (q : t E σ H) : WSs X st E σ H := fun pins s I => h.run pins s σ H E I q
theorem SP.mono {X : Cx} {pins : List (Addr × Obj)} {E E' : Ends} {f : Flow} {s : Shared} (h : SP X pins E f s) (n : ∀ σ H, E.nx σ H → E'.nx σ H) (r : ∀ v H, E.rt v H → E'.rt v H) (b : ∀ σ H, E.bk σ H → E'.bk σ H) (c : ∀ σ H, E.ct σ H → E'.ct σ H) : SP X pins E' f s := by
  cases f with
  | next => obtain ⟨σ, H, I, q⟩ := h; exact ⟨σ, H, I, n _ _ q⟩
  | brk => obtain ⟨σ, H, I, q⟩ := h; exact ⟨σ, H, I, b _ _ q⟩
  | cont => obtain ⟨σ, H, I, q⟩ := h; exact ⟨σ, H, I, c _ _ q⟩
  | ret u => obtain ⟨v, σ, H, I, z, q⟩ := h; exact ⟨v, σ, H, I, z, r _ _ q⟩

/-- a list is never changed again from here on -/
theorem fz_inv {X : Cx} {pins : List (Addr × Obj)} {σ : St} {H : Hp} {s : Shared} {p : Addr} {u : HO} (I : Inv X pins σ H s) (h : H p = some u) (m : Mut (some u)) : ∃ o, Inv X pins σ (upd H p (.frz o u)) s := by
  obtain ⟨ob, hob⟩ : ∃ o, s.heap.get? p = some o := by
    have hl := I.hok.lt h
    cases hq : s.heap.get? p with
    | some o => exact ⟨o, rfl⟩
    | none =>
      exfalso
      have hx := I.hok p u h
      cases u with
      | lst xs => obtain ⟨_, _, _, _, e⟩ := hx; rw [hq] at e; cases e
      | dK kvs => obtain ⟨_, _, _, _, o, _, _, e, _⟩ := hx; rw [hq] at e; cases e
      | dT kvs => obtain ⟨_, _, _, _, o, _, _, e, _⟩ := hx; rw [hq] at e; cases e
      | set S n => obtain ⟨o, _, _, _, e, _⟩ := hx; rw [hq] at e; cases e
      | ins C dx fs => obtain ⟨_, _, _, e, _⟩ := hx; rw [hq] at e; cases e
      | ext φ => obtain ⟨_, ⟨_, e⟩, _⟩ := hx; rw [hq] at e; cases e
      | _ => exact m.elim
  have nm : ∀ {b w}, H b = some w → ¬ Mut (some w) → b ≠ p := fun {b w} e nw z => by subst z; rw [h] at e; cases e; exact nw m
  have nn : ∀ {b : Addr}, H b = none → b ≠ p := fun {b} e z => by subst z; rw [h] at e; cases e
  refine ⟨ob, ⟨I.ok, I.os, I.bare, ⟨I.base.keep, I.base.slot, fun b o e n hx => ?_, I.base.there, fun b xs e => ?_, fun b o xs e => ?_, fun b ps e => ?_⟩, I.loc, I.cell, ?_, fun x c e => ?_, fun q hq => ?_, fun b w e => ?_, I.len⟩⟩
  · have := I.base.free b o e n hx
    rw [upd_ne (nn this)]; exact this
  · have q := I.base.tups b xs e
    rw [upd_ne (nm q fun z => z)]; exact q
  · have q := I.base.frzs b o xs e
    rw [upd_ne (nm q fun z => z)]; exact q
  · obtain ⟨more, q⟩ := I.base.tbls b ps e
    exact ⟨more, by rw [upd_ne (nm q fun z => z)]; exact q⟩
  · rw [upd_ne (nn I.free)]; exact I.free
  · rw [upd_ne (nn (I.freeC x c e))]; exact I.freeC x c e
  · obtain ⟨a, b, c⟩ := I.pin q hq
    exact ⟨a, by rw [upd_ne (nn b)]; exact b, c⟩
  · by_cases hb : b = p
    · subst hb
      rw [upd_same] at e
      cases e
      refine ⟨hob, (I.hok b u h).stay (fun c v _ q => q) (fun c q => by rw [upd_ne (nm q fun z => z)]; exact q) fun c xs q => by rw [upd_ne (nm q fun z => z)]; exact q⟩
    · rw [upd_ne hb] at e
      exact (I.hok b w e).stay (fun c v _ q => q) (fun c q => by rw [upd_ne (nm q fun z => z)]; exact q) fun c xs q => by rw [upd_ne (nm q fun z => z)]; exact q
end DL
/-! DL, part b: expressions that change nothing. -/
namespace DL
open PySem PySem.Spec L2

theorem same_new {H : Hp} {p : Addr} {o : HO} (h : H p = none) : Same H (upd H p o) := fun b u e => by
  rw [upd_ne (ne_of_none e h)]; exact e

/-- pure: all that stood stands -/
def Ep (X : Cx) (ι : Addr → Nat → Prop) (Γ : List Slot) (e : Expr) (r : R) : Prop :=
  ∀ σ H, EnvR X.K ι H σ Γ → WE X e σ H fun v H' => Same H H' ∧ ROk X.K ι H H' r v
/-- a test -/
def Et (X : Cx) (ι : Addr → Nat → Prop) (Γ : List Slot) (e : Expr) (b : Bool) : Prop :=
  ∀ σ H, EnvR X.K ι H σ Γ → WT X e σ H fun c H' => Same H H' ∧ c = b
inductive RVs (K : PySem.W.Frag) (ι : Addr → Nat → Prop) (H : Hp) : List R → List V → Prop
  | nil : RVs K ι H [] []
  | cons {r : R} {v : V} {rs : List R} {vs : List V} : RV K ι H r v → RVs K ι H rs vs → RVs K ι H (r :: rs) (v :: vs)
theorem RVs.same {K : PySem.W.Frag} {ι : Addr → Nat → Prop} {H H' : Hp} (k : Same H H') : ∀ {rs : List R} {vs : List V}, RVs K ι H rs vs → RVs K ι H' rs vs
  | _, _, .nil => .nil
  | _, _, .cons h r => .cons (h.same k) (RVs.same k r)
def Eps (X : Cx) (ι : Addr → Nat → Prop) (Γ : List Slot) (es : List Expr) (rs : List R) : Prop :=
  ∀ σ H, EnvR X.K ι H σ Γ → WA X es σ H fun vs H' => Same H H' ∧ RVs X.K ι H' rs vs

/-- the names of a def or block: what its scope says of the names that stand in slots -/
def visB (sc : Scope) (x : Str) : Bool := (match sc.names.lookup x with | some .local => true | some .cell => true | some .free => true | _ => false) && !(x == "__debug__") && !(x == "__classdict__")
def locB (sc : Scope) (x : Str) : Bool := (match sc.names.lookup x with | some .local => true | some .cell => true | _ => false)
def glB (sc : Scope) (x : Str) : Bool := (match sc.names.lookup x with | some .globalImplicit => true | _ => false) && !(x == "__debug__") && !(x == "__name__")
theorem vis_of {sc : Scope} {x : Str} (h : visB sc x = true) : Vis sc x ∧ (x == ("__debug__" : Str)) = false ∧ (x == ("__classdict__" : Str)) = false := by
  unfold visB at h
  simp only [Bool.and_eq_true, Bool.not_eq_true'] at h
  obtain ⟨⟨h, h1⟩, h2⟩ := h
  refine ⟨?_, h1, h2⟩
  unfold Vis
  split at h <;> simp_all
theorem loc_of {sc : Scope} {x : Str} (h : locB sc x = true) : L2.Loc sc x := by
  unfold locB at h
  unfold L2.Loc
  split at h <;> simp_all
theorem gl_of {sc : Scope} {x : Str} (h : glB sc x = true) : sc.names.lookup x = some .globalImplicit ∧ (x == ("__debug__" : Str)) = false ∧ x ≠ "__name__" := by
  unfold glB at h
  simp only [Bool.and_eq_true, Bool.not_eq_true'] at h
  obtain ⟨⟨h, h1⟩, h2⟩ := h
  refine ⟨?_, h1, fun z => by subst z; simp at h2⟩
  split at h <;> simp_all
/-- where the walk stands -/
structure Sx (X : Cx) (sc : Scope) (N : List Str) : Prop where
  hsc : X.env.scope = sc
  hN : X.N = N
  nd : N.Nodup
  calm : X.calm = true
/-- .. in a def itself (not in a comprehension's block) -/
structure Sd (X : Cx) (sc : Scope) (N : List Str) : Prop extends Sx X sc N where
  fn : ∀ x, X.fn x = true
theorem Sx.gl {X : Cx} {sc : Scope} {N : List Str} (S : Sx X sc N) {x : Str} (h : glB sc x = true) : Gl X x := by
  show X.env.scope.names.lookup x = _
  rw [S.hsc]; exact (gl_of h).1

section
variable {X : Cx} {ι : Addr → Nat → Prop} {Γ : List Slot} {sc : Scope} {N : List Str} {e a b : Expr} {es : List Expr} {pos : Pos} {r ra rb rr : R} {rs : List R}

/-! ### names, constants -/
inductive SlotR : Slot → R → Prop
  | im {d : D} : SlotR (.im d) (.im d)
  | ow {m : M} : SlotR (.ow m) (.vo m)
  | mu {m : M} : SlotR (.mu m) (.vo m)
theorem ep_var (S : Sx X sc N) (i : Nat) {x : Str} {s : Slot} (hN : N[i]? = some x) (hv : visB sc x = true) (hs : Γ[i]? = some s) (hr : SlotR s r) : Ep X ι Γ (.Name x pos) r := by
  intro σ H h
  obtain ⟨v1, v2, v3⟩ := vis_of hv
  refine WE.of (pe_var (i := i) (by rw [S.hN]; exact hN) (by rw [S.hsc]; exact v1) v2 v3) ?_
  have q := h.ok i s hs
  cases hr with
  | im => obtain ⟨v, e, z⟩ := q; exact ⟨v, e, Same.refl _, z⟩
  | ow => obtain ⟨p, e, z⟩ := q; exact ⟨_, e, Same.refl _, p, rfl, z⟩
  | mu => obtain ⟨p, e, z⟩ := q; exact ⟨_, e, Same.refl _, p, rfl, z⟩
theorem ep_int {i : Int} {k : Nat} : Ep X ι Γ (.Constant (.int i) k pos) (.im (.int i)) := fun σ H h => WE.of pe_int ⟨Same.refl _, .int i⟩
theorem ep_str {x : Str} {k : Nat} : Ep X ι Γ (.Constant (.str x) k pos) (.im (.str x)) := fun σ H h => WE.of pe_str ⟨Same.refl _, .str x⟩
theorem ep_bl {b : Bool} {k : Nat} : Ep X ι Γ (.Constant (.bool b) k pos) (.im (.bl b)) := fun σ H h => WE.of pe_bl ⟨Same.refl _, .bl b⟩
theorem ep_non {k : Nat} : Ep X ι Γ (.Constant .none k pos) (.im .non) := fun σ H h => WE.of pe_non ⟨Same.refl _, .non⟩
/-- a global name: its value by what the module holds -/
theorem ep_glob (S : Sx X sc N) {x : Str} {v : V} {u : Value} {d : D} (hg : glB sc x = true) (hm : X.mg x = some u) (rv : RelV v u) (hd : ∀ H, Rep X.K ι H d v) : Ep X ι Γ (.Name x pos) (.im d) := fun σ H h =>
  WE.of (pe_glob (S.gl hg) hm rv (gl_of hg).2.1) ⟨Same.refl _, hd H⟩
/-- an own thing is from here on data that stays -/
theorem ep_fz {m : M} (h : Ep X ι Γ e (.ow m)) (hm : ∀ C fs, m ≠ .ins C fs) : Ep X ι Γ e (.im m.toD) := by
  intro σ H g pins s I
  refine thn (h σ H g pins s I) fun u s1 ⟨v, H', I', rv, sm, p, ev, np, z⟩ => ?_
  subst ev
  have fin : ∀ ho : HO, H' p = some ho → Mut (some ho) → (∀ o, Rep X.K ι (upd H' p (.frz o ho)) m.toD (.ref p)) → EP X pins σ (fun v H'' => Same H H'' ∧ ROk X.K ι H H'' (.im m.toD) v) u s1 := fun ho e mu rp => by
    obtain ⟨o, J⟩ := fz_inv I' e mu
    exact ⟨.ref p, _, J, rv, fun b w q => by rw [upd_ne (ne_of_none q np)]; exact sm b w q, rp o⟩
  have kp : ∀ (ho ho' : HO), H' p = some ho → ¬ Im ι ho → Kp ι H' (upd H' p ho') := fun ho ho' e ni b w q i => by
    by_cases hb : b = p
    · subst hb; rw [e] at q; cases q; exact absurd i ni
    · rw [upd_ne hb]; exact q
  cases m with
  | lst ds =>
    obtain ⟨vs, e, rr⟩ := z
    exact fin _ e trivial fun o => .lst ⟨o, upd_same⟩ (rr.mono (kp _ _ e fun z => z))
  | dic ds =>
    obtain ⟨vs, e, rr⟩ := z
    exact fin _ e trivial fun o => .dic ⟨o, upd_same⟩ (rr.mono (kp _ _ e fun z => z))
  | ins C fs => exact absurd rfl (hm C fs)
inductive ToD : R → D → Prop
  | im {d : D} : ToD (.im d) d
  | lst {ds : List D} : ToD (.ow (.lst ds)) (.lst ds)
  | dic {ds : List (Key × D)} : ToD (.ow (.dic ds)) (.dic ds)
theorem ep_d {d : D} (h : Ep X ι Γ e r) (t : ToD r d) : Ep X ι Γ e (.im d) := by
  cases t with
  | im => exact h
  | lst => exact ep_fz h fun C fs z => nomatch z
  | dic => exact ep_fz h fun C fs z => nomatch z

/-! ### operators -/
def OpOk (X : Cx) (ι : Addr → Nat → Prop) (f : Value → Value → Sem Value) (ra rb rr : R) : Prop :=
  ∃ q : R2, OpR X f q ∧ ∀ H x y Q, RV X.K ι H ra x → RV X.K ι H rb y → (∀ v H', Same H H' → ROk X.K ι H H' rr v → Q v H') → q x y H Q
theorem ep_bin {op : Operator} (ha : Ep X ι Γ a ra) (hb : Ep X ι Γ b rb) (ho : OpOk X ι (binaryOp op) ra rb rr) : Ep X ι Γ (.BinOp a op b pos) rr := by
  intro σ H g
  obtain ⟨q, hq, z⟩ := ho
  refine WE.of (pe_op hq (pe_we X a) (pe_we X b)) ?_
  refine (ha σ H g).mono fun x H1 ⟨s1, r1⟩ => ?_
  refine (hb σ H1 (g.same s1)).mono fun y H2 ⟨s2, r2⟩ => ?_
  exact z H2 x y _ (r1.rv.same s2) r2.rv fun v H3 s3 r3 => ⟨(s1.trans s2).trans s3, r3.older (s1.trans s2)⟩
theorem ep_cmp {op : CmpOp} (ha : Ep X ι Γ a ra) (hb : Ep X ι Γ b rb) (ho : OpOk X ι (compareOp op) ra rb rr) (hm : behindInMarks op b = false := by first | exact nobehind _ (by decide) (by decide) | rfl) : Ep X ι Γ (.Compare a [op] [b] pos) rr := by
  intro σ H g
  obtain ⟨q, hq, z⟩ := ho
  refine WE.of (pe_cmpR hq (pe_we X a) (pe_we X b) hm) ?_
  refine (ha σ H g).mono fun x H1 ⟨s1, r1⟩ => ?_
  refine (hb σ H1 (g.same s1)).mono fun y H2 ⟨s2, r2⟩ => ?_
  exact z H2 x y _ (r1.rv.same s2) r2.rv fun v H3 s3 r3 => ⟨(s1.trans s2).trans s3, r3.older (s1.trans s2)⟩
theorem et_cmp {op : CmpOp} {c : Bool} (ha : Ep X ι Γ a ra) (hb : Ep X ι Γ b rb) (ho : OpOk X ι (compareOp op) ra rb (.im (.bl c))) (hm : behindInMarks op b = false := by first | exact nobehind _ (by decide) (by decide) | rfl) : Et X ι Γ (.Compare a [op] [b] pos) c := by
  intro σ H g
  obtain ⟨q, hq, z⟩ := ho
  refine WT.of (pt_cmpR hq (pe_we X a) (pe_we X b) hm) ?_
  refine (ha σ H g).mono fun x H1 ⟨s1, r1⟩ => ?_
  refine (hb σ H1 (g.same s1)).mono fun y H2 ⟨s2, r2⟩ => ?_
  refine z H2 x y _ (r1.rv.same s2) r2.rv fun v H3 s3 r3 => ?_
  cases r3
  exact ⟨c, rfl, (s1.trans s2).trans s3, rfl⟩
/-- a op b op' c -/
theorem ep_chain {op op' : CmpOp} {c : Expr} {rc : R} {p q : Bool} (ha : Ep X ι Γ a ra) (hb : Ep X ι Γ b rb) (hc : Ep X ι Γ c rc) (ho : OpOk X ι (compareOp op) ra rb (.im (.bl p))) (ho' : p = true → OpOk X ι (compareOp op') rb rc (.im (.bl q)))
    (hm : lastMarks [op, op'] [b, c] = false := by with_unfolding_all rfl) : Ep X ι Γ (.Compare a [op, op'] [b, c] pos) (.im (.bl (p && q))) := by
  intro σ H g
  obtain ⟨f, hf, z⟩ := ho
  cases p with
  | false =>
    refine WE.of (pe_chain (r' := fun _ _ _ _ => False) hf (fun _ _ _ _ _ _ _ _ _ _ _ _ h => h.elim) (pe_we X a) (pe_we X b) (pe_we X c) hm) ?_
    refine (ha σ H g).mono fun x H1 ⟨s1, r1⟩ => ?_
    refine (hb σ H1 (g.same s1)).mono fun y H2 ⟨s2, r2⟩ => ?_
    refine z H2 x y _ (r1.rv.same s2) r2.rv fun v H3 s3 r3 => ?_
    cases r3
    refine ⟨false, rfl, ?_⟩
    exact iteF ⟨(s1.trans s2).trans s3, .bl _⟩
  | true =>
    obtain ⟨f', hf', z'⟩ := ho' rfl
    refine WE.of (pe_chain hf hf' (pe_we X a) (pe_we X b) (pe_we X c) hm) ?_
    refine (ha σ H g).mono fun x H1 ⟨s1, r1⟩ => ?_
    refine (hb σ H1 (g.same s1)).mono fun y H2 ⟨s2, r2⟩ => ?_
    refine z H2 x y _ (r1.rv.same s2) r2.rv fun v H3 s3 r3 => ?_
    cases r3
    refine ⟨true, rfl, ?_⟩
    refine iteT ?_
    refine (hc σ H3 (g.same ((s1.trans s2).trans s3))).mono fun w H4 ⟨s4, r4⟩ => ?_
    refine z' H4 y w _ ((r2.rv.same s3).same s4) r4.rv fun v H5 s5 r5 => ⟨(((s1.trans s2).trans s3).trans s4).trans s5, r5.older (((s1.trans s2).trans s3).trans s4)⟩

/-! ### tests -/
def WW (X : Cx) (e : Expr) : TT := fun σ H Q => ∀ (whole : Sem Value) (pins : List (Addr × Obj)) (s : Shared), Inv X pins σ H s → wpAny (model X.prog X.w) X.A (isTrue e X.env whole) (TP X pins σ Q) X.xe s
theorem pw_ww (X : Cx) (e : Expr) : PW X e (WW X e) := ⟨fun wh pins s σ H Q I h => h wh pins s I⟩
theorem WW.of {σ : St} {H : Hp} {Q : Bool → Hp → Prop} {t : TT} (h : PW X e t) (q : t σ H Q) : WW X e σ H Q := fun wh pins s I => h.run wh pins s σ H Q I q
theorem WW.mono {σ : St} {H : Hp} {Q Q' : Bool → Hp → Prop} (h : WW X e σ H Q) (q : ∀ v H, Q v H → Q' v H) : WW X e σ H Q' := fun wh pins s I => thn (h wh pins s I) fun _ _ ⟨H', I', z⟩ => ⟨H', I', q _ _ z⟩
def Ew (X : Cx) (ι : Addr → Nat → Prop) (Γ : List Slot) (e : Expr) (b : Bool) : Prop :=
  ∀ σ H, EnvR X.K ι H σ Γ → WW X e σ H fun c H' => Same H H' ∧ c = b
theorem et_w {c : Bool} (h : Ew X ι Γ e c) : Et X ι Γ e c := fun σ H g pins s I => h σ H g _ pins s I
theorem ew_and1 {p : Bool} (h : Et X ι Γ a p) : Ew X ι Γ (.BoolOp .And [a] pos) p := fun σ H g => WW.of (pw_and1 (pt_wt X a)) (h σ H g)
theorem ew_or1 {p : Bool} (h : Et X ι Γ a p) : Ew X ι Γ (.BoolOp .Or [a] pos) p := fun σ H g => WW.of (pw_or1 (pt_wt X a)) (h σ H g)
theorem ew_and {p q : Bool} (h : Et X ι Γ a p) (h' : p = true → Ew X ι Γ (.BoolOp .And (b :: es) pos) q) : Ew X ι Γ (.BoolOp .And (a :: b :: es) pos) (p && q) := by
  intro σ H g
  refine WW.of (pw_and (pt_wt X a) (pw_ww X _)) ?_
  refine (h σ H g).mono fun c H1 ⟨s1, e⟩ => ?_
  subst e
  cases c with
  | false => exact iteF ⟨s1, rfl⟩
  | true => exact iteT ((h' rfl σ H1 (g.same s1)).mono fun c H2 ⟨s2, e⟩ => ⟨s1.trans s2, e⟩)
theorem ew_or {p q : Bool} (h : Et X ι Γ a p) (h' : p = false → Ew X ι Γ (.BoolOp .Or (b :: es) pos) q) : Ew X ι Γ (.BoolOp .Or (a :: b :: es) pos) (p || q) := by
  intro σ H g
  refine WW.of (pw_or (pt_wt X a) (pw_ww X _)) ?_
  refine (h σ H g).mono fun c H1 ⟨s1, e⟩ => ?_
  subst e
  cases c with
  | true => exact iteT ⟨s1, rfl⟩
  | false => exact iteF ((h' rfl σ H1 (g.same s1)).mono fun c H2 ⟨s2, e⟩ => ⟨s1.trans s2, e⟩)
theorem et_not {p : Bool} (h : Et X ι Γ a p) : Et X ι Γ (.UnaryOp .Not a pos) (!p) := by
  intro σ H g
  refine WT.of (pt_not (pt_wt X a)) ?_
  exact (h σ H g).mono fun c H1 ⟨s1, e⟩ => ⟨s1, by rw [e]⟩
theorem et_chain {op op' : CmpOp} {c : Expr} {rc : R} {p q : Bool} (ha : Ep X ι Γ a ra) (hb : Ep X ι Γ b rb) (hc : Ep X ι Γ c rc) (ho : OpOk X ι (compareOp op) ra rb (.im (.bl p))) (ho' : p = true → OpOk X ι (compareOp op') rb rc (.im (.bl q)))
    (hm : lastMarks [op, op'] [b, c] = false := by with_unfolding_all rfl) : Et X ι Γ (.Compare a [op, op'] [b, c] pos) (p && q) := by
  intro σ H g
  obtain ⟨f, hf, z⟩ := ho
  cases p with
  | false =>
    refine WT.of (pt_chain (r' := fun _ _ _ _ => False) hf (fun _ _ _ _ _ _ _ _ _ _ _ _ h => h.elim) (pe_we X a) (pe_we X b) (pe_we X c) hm) ?_
    refine (ha σ H g).mono fun x H1 ⟨s1, r1⟩ => ?_
    refine (hb σ H1 (g.same s1)).mono fun y H2 ⟨s2, r2⟩ => ?_
    refine z H2 x y _ (r1.rv.same s2) r2.rv fun v H3 s3 r3 => ?_
    cases r3
    refine ⟨false, rfl, ?_⟩
    exact iteF ⟨false, rfl, (s1.trans s2).trans s3, rfl⟩
  | true =>
    obtain ⟨f', hf', z'⟩ := ho' rfl
    refine WT.of (pt_chain hf hf' (pe_we X a) (pe_we X b) (pe_we X c) hm) ?_
    refine (ha σ H g).mono fun x H1 ⟨s1, r1⟩ => ?_
    refine (hb σ H1 (g.same s1)).mono fun y H2 ⟨s2, r2⟩ => ?_
    refine z H2 x y _ (r1.rv.same s2) r2.rv fun v H3 s3 r3 => ?_
    cases r3
    refine ⟨true, rfl, ?_⟩
    refine iteT ?_
    refine (hc σ H3 (g.same ((s1.trans s2).trans s3))).mono fun w H4 ⟨s4, r4⟩ => ?_
    refine z' H4 y w _ ((r2.rv.same s3).same s4) r4.rv fun v H5 s5 r5 => ?_
    cases r5
    exact ⟨q, rfl, (((s1.trans s2).trans s3).trans s4).trans s5, rfl⟩
/-- an expression that comes to True or False, as a test -/
theorem et_val {c : Bool} (h : Ep X ι Γ e (.im (.bl c))) (he : ∀ whole, isTrue e X.env whole = (do let v ← whole; standAt e.pos; holding [v] (truthy v)) := by intro _; rfl) : Et X ι Γ e c := by
  intro σ H g
  refine WT.of (pt_val (pe_we X e) he) ?_
  refine (h σ H g).mono fun v H1 ⟨s1, r1⟩ => ?_
  cases r1
  exact ⟨c, rfl, s1, rfl⟩

/-! ### and, or, not, if as values -/
theorem ep_one {op : BoolOp} (h : Ep X ι Γ a r) : Ep X ι Γ (.BoolOp op [a] pos) r := fun σ H g => WE.of (pe_one (pe_we X a)) (h σ H g)
theorem ep_and {p q : Bool} (h : Ep X ι Γ a (.im (.bl p))) (h' : p = true → Ep X ι Γ (.BoolOp .And (b :: es) pos) (.im (.bl q))) : Ep X ι Γ (.BoolOp .And (a :: b :: es) pos) (.im (.bl (p && q))) := by
  intro σ H g
  refine WE.of (pe_and (pe_we X a) (pe_we X _)) ?_
  refine (h σ H g).mono fun v H1 ⟨s1, r1⟩ => ?_
  cases r1
  refine ⟨p, rfl, ?_⟩
  cases p with
  | false => exact iteF ⟨s1, .bl _⟩
  | true => exact iteT ((h' rfl σ H1 (g.same s1)).mono fun c H2 ⟨s2, e⟩ => ⟨s1.trans s2, e.older s1⟩)
theorem ep_or {p q : Bool} (h : Ep X ι Γ a (.im (.bl p))) (h' : p = false → Ep X ι Γ (.BoolOp .Or (b :: es) pos) (.im (.bl q))) : Ep X ι Γ (.BoolOp .Or (a :: b :: es) pos) (.im (.bl (p || q))) := by
  intro σ H g
  refine WE.of (pe_or (pe_we X a) (pe_we X _)) ?_
  refine (h σ H g).mono fun v H1 ⟨s1, r1⟩ => ?_
  cases r1
  refine ⟨p, rfl, ?_⟩
  cases p with
  | true => exact iteT ⟨s1, .bl _⟩
  | false => exact iteF ((h' rfl σ H1 (g.same s1)).mono fun c H2 ⟨s2, e⟩ => ⟨s1.trans s2, e.older s1⟩)
theorem ep_not {p : Bool} (h : Ep X ι Γ a (.im (.bl p))) : Ep X ι Γ (.UnaryOp .Not a pos) (.im (.bl (!p))) := by
  intro σ H g
  refine WE.of (pe_not (pe_we X a)) ?_
  refine (h σ H g).mono fun v H1 ⟨s1, r1⟩ => ?_
  cases r1
  exact ⟨p, rfl, s1, .bl _⟩
theorem ep_neg {i : Int} (h : Ep X ι Γ a (.im (.int i))) : Ep X ι Γ (.UnaryOp .USub a pos) (.im (.int (-i))) := by
  intro σ H g
  refine WE.of (pe_un un_neg (pe_we X a)) ?_
  refine (h σ H g).mono fun v H1 ⟨s1, r1⟩ => ?_
  cases r1
  exact ⟨i, rfl, s1, .int _⟩
theorem ep_ifT {c : Expr} {p : Bool} (h : Et X ι Γ c p) (hp : p = true) (h1 : Ep X ι Γ a r) : Ep X ι Γ (.IfExp c a b pos) r := by
  intro σ H g
  subst hp
  refine WE.of (pe_ifExp (pt_wt X c) (pe_we X a) (pe_we X b)) ?_
  refine (h σ H g).mono fun d H1 ⟨s1, e⟩ => ?_
  subst e
  exact iteT ((h1 σ H1 (g.same s1)).mono fun c H2 ⟨s2, e⟩ => ⟨s1.trans s2, e.older s1⟩)
theorem ep_ifF {c : Expr} {p : Bool} (h : Et X ι Γ c p) (hp : p = false) (h1 : Ep X ι Γ b r) : Ep X ι Γ (.IfExp c a b pos) r := by
  intro σ H g
  subst hp
  refine WE.of (pe_ifExp (pt_wt X c) (pe_we X a) (pe_we X b)) ?_
  refine (h σ H g).mono fun d H1 ⟨s1, e⟩ => ?_
  subst e
  exact iteF ((h1 σ H1 (g.same s1)).mono fun c H2 ⟨s2, e⟩ => ⟨s1.trans s2, e.older s1⟩)

/-! ### several -/
def Eds (X : Cx) (ι : Addr → Nat → Prop) (Γ : List Slot) (es : List Expr) (ds : List D) : Prop :=
  ∀ σ H, EnvR X.K ι H σ Γ → WA X es σ H fun vs H' => Same H H' ∧ Reps X.K ι H' ds vs
theorem eds_nil : Eds X ι Γ [] [] := fun σ H g => WA.of pa_nil ⟨Same.refl _, .nil⟩
theorem eds_cons {d : D} {ds : List D} (h : Ep X ι Γ e (.im d)) (h' : Eds X ι Γ es ds) (hs : starEach (e :: es) X.env = (false, eval e X.env) :: starEach es X.env := by rfl) : Eds X ι Γ (e :: es) (d :: ds) := by
  intro σ H g
  refine WA.of (pa_cons (pe_we X e) (pa_wa X es) hs) ?_
  refine (h σ H g).mono fun v H1 ⟨s1, r1⟩ => ?_
  refine (h' σ H1 (g.same s1)).mono fun vs H2 ⟨s2, r2⟩ => ⟨s1.trans s2, .cons (Rep.mono s2.kp r1) r2⟩
theorem eps_nil : Eps X ι Γ [] [] := fun σ H g => WA.of pa_nil ⟨Same.refl _, .nil⟩
theorem eps_cons (h : Ep X ι Γ e r) (h' : Eps X ι Γ es rs) (hs : starEach (e :: es) X.env = (false, eval e X.env) :: starEach es X.env := by rfl) : Eps X ι Γ (e :: es) (r :: rs) := by
  intro σ H g
  refine WA.of (pa_cons (pe_we X e) (pa_wa X es) hs) ?_
  refine (h σ H g).mono fun v H1 ⟨s1, r1⟩ => ?_
  refine (h' σ H1 (g.same s1)).mono fun vs H2 ⟨s2, r2⟩ => ⟨s1.trans s2, .cons (r1.rv.same s2) r2⟩
theorem ep_tup {ds : List D} {k : Nat} (h : Eds X ι Γ es ds) (hz : ds.length ≤ sizeLine := by decide +kernel) : Ep X ι Γ (.Tuple es k pos) (.im (.tup ds)) := by
  intro σ H g
  refine WE.of (pe_tup (pa_wa X es)) ?_
  refine (h σ H g).mono fun vs H1 ⟨s1, r1⟩ => ⟨by rw [r1.length]; exact hz, fun p np => ⟨s1.trans (same_new np), .tup (SqT.of upd_same) (r1.mono (same_new np).kp)⟩⟩
theorem ep_lst {ds : List D} (h : Eds X ι Γ es ds) (hz : ds.length ≤ sizeLine := by decide +kernel) : Ep X ι Γ (.List es pos) (.ow (.lst ds)) := by
  intro σ H g
  refine WE.of (pe_lst (pa_wa X es)) ?_
  refine (h σ H g).mono fun vs H1 ⟨s1, r1⟩ => ⟨by rw [r1.length]; exact hz, fun p np => ⟨s1.trans (same_new np), p, rfl, s1.free np, _, upd_same, r1.mono (same_new np).kp⟩⟩

/-! ### a[i], a[i:j], o.f -/
def IxOk (X : Cx) (ι : Addr → Nat → Prop) (ra rb rr : R) : Prop :=
  ∃ q : R2, IxR X q ∧ ∀ H x y Q, RV X.K ι H ra x → RV X.K ι H rb y → (∀ v H', Same H H' → ROk X.K ι H H' rr v → Q v H') → q x y H Q
theorem ep_ix (ha : Ep X ι Γ a ra) (hb : Ep X ι Γ b rb) (ho : IxOk X ι ra rb rr) (hs : PlainIx b := by exact fun _ _ => rfl) : Ep X ι Γ (.Subscript a b pos) rr := by
  intro σ H g
  obtain ⟨q, hq, z⟩ := ho
  refine WE.of (pe_ix hq (pe_we X a) (pe_we X b) hs) ?_
  refine (ha σ H g).mono fun x H1 ⟨s1, r1⟩ => ?_
  refine (hb σ H1 (g.same s1)).mono fun y H2 ⟨s2, r2⟩ => ?_
  exact z H2 x y _ (r1.rv.same s2) r2.rv fun v H3 s3 r3 => ⟨(s1.trans s2).trans s3, r3.older (s1.trans s2)⟩
inductive Epo (X : Cx) (ι : Addr → Nat → Prop) (Γ : List Slot) : Option Expr → Option Int → Prop
  | none : Epo X ι Γ none none
  | some {e : Expr} {i : Int} : Ep X ι Γ e (.im (.int i)) → Epo X ι Γ (some e) (some i)
theorem Epo.po {o : Option Expr} {i : Option Int} (h : Epo X ι Γ o i) : ∃ t, PO X o t ∧ ∀ σ H Q, EnvR X.K ι H σ Γ → (∀ H', Same H H' → Q i H') → t σ H Q := by
  cases h with
  | none => exact ⟨_, po_none, fun σ H Q g q => q H (Same.refl _)⟩
  | some h =>
    refine ⟨_, po_some (pe_we X _), fun σ H Q g q => ?_⟩
    refine (h σ H g).mono fun v H1 ⟨s1, r1⟩ => ?_
    cases r1
    exact ⟨_, rfl, q H1 s1⟩
def SlOk (X : Cx) (ι : Addr → Nat → Prop) (ra : R) (lo hi : Option Int) (rr : R) : Prop :=
  ∃ q : V → Option Int → Option Int → Hp → VK → Prop, SlR X q ∧ ∀ H x Q, RV X.K ι H ra x → (∀ v H', Same H H' → ROk X.K ι H H' rr v → Q v H') → q x lo hi H Q
theorem ep_slice {lo hi : Option Expr} {l u : Option Int} {p2 : Pos} (ha : Ep X ι Γ a ra) (hl : Epo X ι Γ lo l) (hu : Epo X ι Γ hi u) (ho : SlOk X ι ra l u rr) : Ep X ι Γ (.Subscript a (.Slice lo hi none p2) pos) rr := by
  intro σ H g
  obtain ⟨q, hq, z⟩ := ho
  obtain ⟨tl, pl, hl⟩ := hl.po
  obtain ⟨tu, pu, hu⟩ := hu.po
  refine WE.of (pe_slice hq (pe_we X a) pl pu) ?_
  refine (ha σ H g).mono fun x H1 ⟨s1, r1⟩ => ?_
  refine hl σ H1 _ (g.same s1) fun H2 s2 => ?_
  refine hu σ H2 _ (g.same (s1.trans s2)) fun H3 s3 => ?_
  exact z H3 x _ ((r1.rv.same s2).same s3) fun v H4 s4 r4 => ⟨((s1.trans s2).trans s3).trans s4, r4.older ((s1.trans s2).trans s3)⟩
inductive InsR (C : Addr) (fs : List (Str × D)) : R → Prop
  | im : InsR C fs (.im (.ins C fs))
  | vo : InsR C fs (.vo (.ins C fs))
  | ow : InsR C fs (.ow (.ins C fs))
theorem RV.ins {K : PySem.W.Frag} {H : Hp} {C : Addr} {fs : List (Str × D)} {v : V} (h : RV K ι H r v) (i : InsR C fs r) : ∃ p dx fs', v = .ref p ∧ H p = some (.ins C dx fs') ∧ RepF K ι H fs fs' := by
  cases i with
  | im => cases h with | ins h1 h2 h3 => exact ⟨_, _, _, rfl, h1, h3⟩
  | vo => obtain ⟨p, e, dx, fs', h1, h2⟩ := h; exact ⟨_, _, _, e, h1, h2⟩
  | ow => obtain ⟨p, e, dx, fs', h1, h2⟩ := h; exact ⟨_, _, _, e, h1, h2⟩
theorem ep_fld {C : Addr} {fs : List (Str × D)} {f : Str} {d : D} (ha : Ep X ι Γ a ra) (hi : InsR C fs ra) (c : Cls X.K C) (n : NoAttr X.K C f) (hf : fs.lookup f = some d)
    (hb : attributeBase a f X.env (eval a X.env) = eval a X.env := by rfl) : Ep X ι Γ (.Attribute a f pos) (.im d) := by
  intro σ H g
  refine WE.of (pe_fld (pe_we X a) hb) ?_
  refine (ha σ H g).mono fun x H1 ⟨s1, r1⟩ => ?_
  obtain ⟨p, dx, fs', ev, h1, h2⟩ := r1.rv.ins hi
  obtain ⟨v, e1, e2⟩ := h2.lookup hf
  exact ⟨p, C, dx, fs', v, ev, h1, c, n, e1, s1, e2⟩

/-! ### built-in functions and types, called -/
def CallOk (X : Cx) (ι : Addr → Nat → Prop) (f : Value) (rs : List R) (rr : R) : Prop :=
  ∃ q : List V → Hp → VK → Prop, CallR X f q ∧ ∀ H vs Q, RVs X.K ι H rs vs → (∀ v H', Same H H' → ROk X.K ι H H' rr v → Q v H') → q vs H Q
theorem ep_callB (S : Sx X sc N) {x : Str} {p : Pos} {id : String} (hg : glB sc x = true) (hm : X.mg x = none) (hv : bootBuiltins x = some (.builtin id)) (ha : Eps X ι Γ (e :: es) rs) (hc : CallOk X ι (.builtin id) rs rr)
    (he : starEach (e :: es) X.env = (false, eval e X.env) :: starEach es X.env := by rfl) (hpl : (backTo pos (starEach es X.env)).any (·.1) = false := by rfl) : Ep X ι Γ (.Call (.Name x p) (e :: es) [] pos) rr := by
  intro σ H g
  obtain ⟨q, hq, z⟩ := hc
  refine WE.of (pe_callB hq (S.gl hg) hm hv (pa_wa X _) (gl_of hg).2.2 (gl_of hg).2.1 he hpl) ?_
  refine (ha σ H g).mono fun vs H1 ⟨s1, r1⟩ => ?_
  exact z H1 vs _ r1 fun v H2 s2 r2 => ⟨s1.trans s2, r2.older s1⟩
theorem ep_callTy (S : Sx X sc N) {x : Str} {p : Pos} {id : String} (hg : glB sc x = true) (hm : X.mg x = none) (hv : bootBuiltins x = some (.type id)) (ha : Eps X ι Γ (e :: es) rs) (hc : CallOk X ι (.type id) rs rr)
    (he : starEach (e :: es) X.env = (false, eval e X.env) :: starEach es X.env := by rfl) (hpl : (backTo pos (starEach es X.env)).any (·.1) = false := by rfl) : Ep X ι Γ (.Call (.Name x p) (e :: es) [] pos) rr := by
  intro σ H g
  obtain ⟨q, hq, z⟩ := hc
  refine WE.of (pe_callTy hq (S.gl hg) hm hv (pa_wa X _) (gl_of hg).2.2 (gl_of hg).2.1 he hpl) ?_
  refine (ha σ H g).mono fun vs H1 ⟨s1, r1⟩ => ?_
  exact z H1 vs _ r1 fun v H2 s2 r2 => ⟨s1.trans s2, r2.older s1⟩
end
end DL
/-! DL, part c: expressions that change what slots own; what a def promises; calls. -/
namespace DL
open PySem PySem.Spec L2

/-- no slot comes to own what it did not -/
def Kd (Γ Γ' : List Slot) : Prop := ∀ i : Nat, isOwn Γ'[i]? → isOwn Γ[i]?
theorem Kd.refl {Γ : List Slot} : Kd Γ Γ := fun _ h => h
theorem Kd.trans {Γ Γ1 Γ2 : List Slot} (a : Kd Γ Γ1) (b : Kd Γ1 Γ2) : Kd Γ Γ2 := fun i h => a i (b i h)
section
variable {ι : Addr → Nat → Prop} {σ : St} {Γ Γ1 Γ2 Γ' : List Slot} {H H1 H2 H' : Hp} {K : PySem.W.Frag} {C : Cf}
theorem Kd.owned (k : Kd Γ Γ') {b : Addr} (o : OwnedBy σ Γ' b) : OwnedBy σ Γ b := let ⟨i, h, e⟩ := o; ⟨i, k i h, e⟩
theorem FrE.refl : FrE ι σ Γ H H := ⟨fun _ _ h _ => h, fun _ o h => ⟨o, h⟩⟩
theorem FrE.trans (a : FrE ι σ Γ H H1) (k : Kd Γ Γ1) (b : FrE ι σ Γ1 H1 H2) : FrE ι σ Γ H H2 :=
  ⟨fun c o e i => b.keep c o (a.keep c o e i) (i.imp id fun n z => n (k.owned z)), fun c o e => let ⟨o1, e1⟩ := a.tr c o e; b.tr c o1 e1⟩
theorem FrE.free (f : FrE ι σ Γ H H') {p : Addr} (n : H' p = none) : H p = none := by
  cases q : H p with
  | none => rfl
  | some o => obtain ⟨o', e⟩ := f.tr p o q; rw [n] at e; cases e
theorem EnvOk.free (g : EnvOk K ι C H σ Γ) {p : Addr} (n : H p = none) : C.H0 p = none := by
  cases q : C.H0 p with
  | none => rfl
  | some o => obtain ⟨o', e⟩ := g.tr p o q; rw [n] at e; cases e
theorem EnvR.notOwned (g : EnvR K ι H σ Γ) {p : Addr} (n : H p = none) : ¬ OwnedBy σ Γ p := fun z => by
  obtain ⟨o, e⟩ := g.owned z
  rw [n] at e; cases e
end

/-- an expression comes to r, the slots then hold Γ' -/
def Ev (X : Cx) (ι : Addr → Nat → Prop) (Γ : List Slot) (e : Expr) (r : R) (Γ' : List Slot) : Prop :=
  Kd Γ Γ' ∧ ∀ C σ H, EnvOk X.K ι C H σ Γ → WE X e σ H fun v H' => EnvOk X.K ι C H' σ Γ' ∧ FrE ι σ Γ H H' ∧ ROk X.K ι H H' r v
def Evt (X : Cx) (ι : Addr → Nat → Prop) (Γ : List Slot) (e : Expr) (b : Bool) (Γ' : List Slot) : Prop :=
  Kd Γ Γ' ∧ ∀ C σ H, EnvOk X.K ι C H σ Γ → WT X e σ H fun c H' => EnvOk X.K ι C H' σ Γ' ∧ FrE ι σ Γ H H' ∧ c = b
def Evds (X : Cx) (ι : Addr → Nat → Prop) (Γ : List Slot) (es : List Expr) (ds : List D) (Γ' : List Slot) : Prop :=
  Kd Γ Γ' ∧ ∀ C σ H, EnvOk X.K ι C H σ Γ → WA X es σ H fun vs H' => EnvOk X.K ι C H' σ Γ' ∧ FrE ι σ Γ H H' ∧ Reps X.K ι H' ds vs

section
variable {X : Cx} {ι : Addr → Nat → Prop} {Γ Γ1 Γ2 Γ' : List Slot} {sc : Scope} {N : List Str} {e a b : Expr} {es : List Expr} {pos : Pos} {r ra rb rr : R} {rs : List R} {d da db : D} {ds : List D}
theorem ev_p (h : Ep X ι Γ e r) : Ev X ι Γ e r Γ := ⟨Kd.refl, fun C σ H g => (h σ H g.toEnvR).mono fun v H1 ⟨s1, r1⟩ => ⟨g.same s1, s1.frE, r1⟩⟩
theorem evt_p {c : Bool} (h : Et X ι Γ e c) : Evt X ι Γ e c Γ := ⟨Kd.refl, fun C σ H g => (h σ H g.toEnvR).mono fun v H1 ⟨s1, r1⟩ => ⟨g.same s1, s1.frE, r1⟩⟩
theorem evds_p (h : Eds X ι Γ es ds) : Evds X ι Γ es ds Γ := ⟨Kd.refl, fun C σ H g => (h σ H g.toEnvR).mono fun v H1 ⟨s1, r1⟩ => ⟨g.same s1, s1.frE, r1⟩⟩
theorem ROk.olderE {K : PySem.W.Frag} {σ : St} {H H1 H2 : Hp} {v : V} (h : ROk K ι H1 H2 r v) (k : FrE ι σ Γ H H1) : ROk K ι H H2 r v := by
  cases r with
  | im d => exact h
  | ow m => obtain ⟨p, e, n, q⟩ := h; exact ⟨p, e, k.free n, q⟩
  | vo m => exact h
theorem ev_bin {op : Operator} (ha : Ev X ι Γ a (.im da) Γ1) (hb : Ev X ι Γ1 b (.im db) Γ2) (ho : OpOk X ι (binaryOp op) (.im da) (.im db) rr) : Ev X ι Γ (.BinOp a op b pos) rr Γ2 := by
  refine ⟨ha.1.trans hb.1, fun C σ H g => ?_⟩
  obtain ⟨q, hq, z⟩ := ho
  refine WE.of (pe_op hq (pe_we X a) (pe_we X b)) ?_
  refine (ha.2 C σ H g).mono fun x H1 ⟨g1, s1, r1⟩ => ?_
  refine (hb.2 C σ H1 g1).mono fun y H2 ⟨g2, s2, r2⟩ => ?_
  have s12 := s1.trans ha.1 s2
  exact z H2 x y _ (Rep.mono s2.kp r1) r2 fun v H3 s3 r3 => ⟨g2.same s3, s12.trans (ha.1.trans hb.1) s3.frE, r3.olderE s12⟩
theorem ev_cmp {op : CmpOp} (ha : Ev X ι Γ a (.im da) Γ1) (hb : Ev X ι Γ1 b (.im db) Γ2) (ho : OpOk X ι (compareOp op) (.im da) (.im db) rr) (hm : behindInMarks op b = false := by first | exact nobehind _ (by decide) (by decide) | rfl) : Ev X ι Γ (.Compare a [op] [b] pos) rr Γ2 := by
  refine ⟨ha.1.trans hb.1, fun C σ H g => ?_⟩
  obtain ⟨q, hq, z⟩ := ho
  refine WE.of (pe_cmpR hq (pe_we X a) (pe_we X b) hm) ?_
  refine (ha.2 C σ H g).mono fun x H1 ⟨g1, s1, r1⟩ => ?_
  refine (hb.2 C σ H1 g1).mono fun y H2 ⟨g2, s2, r2⟩ => ?_
  have s12 := s1.trans ha.1 s2
  exact z H2 x y _ (Rep.mono s2.kp r1) r2 fun v H3 s3 r3 => ⟨g2.same s3, s12.trans (ha.1.trans hb.1) s3.frE, r3.olderE s12⟩
theorem evt_cmp {op : CmpOp} {c : Bool} (ha : Ev X ι Γ a (.im da) Γ1) (hb : Ev X ι Γ1 b (.im db) Γ2) (ho : OpOk X ι (compareOp op) (.im da) (.im db) (.im (.bl c))) (hm : behindInMarks op b = false := by first | exact nobehind _ (by decide) (by decide) | rfl) : Evt X ι Γ (.Compare a [op] [b] pos) c Γ2 := by
  refine ⟨ha.1.trans hb.1, fun C σ H g => ?_⟩
  obtain ⟨q, hq, z⟩ := ho
  refine WT.of (pt_cmpR hq (pe_we X a) (pe_we X b) hm) ?_
  refine (ha.2 C σ H g).mono fun x H1 ⟨g1, s1, r1⟩ => ?_
  refine (hb.2 C σ H1 g1).mono fun y H2 ⟨g2, s2, r2⟩ => ?_
  have s12 := s1.trans ha.1 s2
  refine z H2 x y _ (Rep.mono s2.kp r1) r2 fun v H3 s3 r3 => ?_
  cases r3
  exact ⟨c, rfl, g2.same s3, s12.trans (ha.1.trans hb.1) s3.frE, rfl⟩
theorem evt_val {c : Bool} (h : Ev X ι Γ e (.im (.bl c)) Γ') (he : ∀ whole, isTrue e X.env whole = (do let v ← whole; standAt e.pos; holding [v] (truthy v)) := by intro _; rfl) : Evt X ι Γ e c Γ' := by
  refine ⟨h.1, fun C σ H g => ?_⟩
  refine WT.of (pt_val (pe_we X e) he) ?_
  refine (h.2 C σ H g).mono fun v H1 ⟨g1, s1, r1⟩ => ?_
  cases r1
  exact ⟨c, rfl, g1, s1, rfl⟩
theorem evt_not {p : Bool} (h : Evt X ι Γ a p Γ') : Evt X ι Γ (.UnaryOp .Not a pos) (!p) Γ' := by
  refine ⟨h.1, fun C σ H g => ?_⟩
  refine WT.of (pt_not (pt_wt X a)) ?_
  exact (h.2 C σ H g).mono fun c H1 ⟨g1, s1, e⟩ => ⟨g1, s1, by rw [e]⟩
theorem ev_neg {i : Int} (h : Ev X ι Γ a (.im (.int i)) Γ') : Ev X ι Γ (.UnaryOp .USub a pos) (.im (.int (-i))) Γ' := by
  refine ⟨h.1, fun C σ H g => ?_⟩
  refine WE.of (pe_un un_neg (pe_we X a)) ?_
  refine (h.2 C σ H g).mono fun v H1 ⟨g1, s1, r1⟩ => ?_
  cases r1
  exact ⟨i, rfl, g1, s1, .int _⟩
theorem evds_nil : Evds X ι Γ [] [] Γ := evds_p eds_nil
theorem evds_cons (h : Ev X ι Γ e (.im d) Γ1) (h' : Evds X ι Γ1 es ds Γ2) (hs : starEach (e :: es) X.env = (false, eval e X.env) :: starEach es X.env := by rfl) : Evds X ι Γ (e :: es) (d :: ds) Γ2 := by
  refine ⟨h.1.trans h'.1, fun C σ H g => ?_⟩
  refine WA.of (pa_cons (pe_we X e) (pa_wa X es) hs) ?_
  refine (h.2 C σ H g).mono fun v H1 ⟨g1, s1, r1⟩ => ?_
  refine (h'.2 C σ H1 g1).mono fun vs H2 ⟨g2, s2, r2⟩ => ⟨g2, s1.trans h.1 s2, .cons (Rep.mono s2.kp r1) r2⟩
theorem ev_tup {k : Nat} (h : Evds X ι Γ es ds Γ') (hz : ds.length ≤ sizeLine := by decide +kernel) : Ev X ι Γ (.Tuple es k pos) (.im (.tup ds)) Γ' := by
  refine ⟨h.1, fun C σ H g => ?_⟩
  refine WE.of (pe_tup (pa_wa X es)) ?_
  refine (h.2 C σ H g).mono fun vs H1 ⟨g1, s1, r1⟩ => ⟨by rw [r1.length]; exact hz, fun p np => ⟨g1.same (same_new np), s1.trans h.1 (same_new np).frE, .tup (SqT.of upd_same) (r1.mono (same_new np).kp)⟩⟩
theorem ev_lst (h : Evds X ι Γ es ds Γ') (hz : ds.length ≤ sizeLine := by decide +kernel) : Ev X ι Γ (.List es pos) (.ow (.lst ds)) Γ' := by
  refine ⟨h.1, fun C σ H g => ?_⟩
  refine WE.of (pe_lst (pa_wa X es)) ?_
  refine (h.2 C σ H g).mono fun vs H1 ⟨g1, s1, r1⟩ => ⟨by rw [r1.length]; exact hz, fun p np => ⟨g1.same (same_new np), s1.trans h.1 (same_new np).frE, p, rfl, s1.free np, _, upd_same, r1.mono (same_new np).kp⟩⟩
/-- an own thing is from here on data that stays -/
theorem ev_fz {m : M} (h : Ev X ι Γ e (.ow m) Γ') (hm : ∀ C fs, m ≠ .ins C fs) : Ev X ι Γ e (.im m.toD) Γ' := by
  refine ⟨h.1, fun C σ H g pins s I => ?_⟩
  refine thn (h.2 C σ H g pins s I) fun u s1 ⟨v, H', I', rv, g', sm, p, ev, np, z⟩ => ?_
  subst ev
  have no : ¬ OwnedBy σ Γ' p := fun q => g.toEnvR.notOwned np (h.1.owned q)
  have fin : ∀ ho : HO, H' p = some ho → Mut (some ho) → ¬ Im ι ho → (∀ o, Rep X.K ι (upd H' p (.frz o ho)) m.toD (.ref p)) → EP X pins σ (fun v H'' => EnvOk X.K ι C H'' σ Γ' ∧ FrE ι σ Γ H H'' ∧ ROk X.K ι H H'' (.im m.toD) v) u s1 := fun ho e mu ni rp => by
    obtain ⟨o, J⟩ := fz_inv I' e mu
    have kp : Kp ι H' (upd H' p (.frz o ho)) := fun b w q i => by
      by_cases hb : b = p
      · subst hb; rw [e] at q; cases q; exact absurd i ni
      · rw [upd_ne hb]; exact q
    have own : ∀ (i : Nat) (q : Addr), isOwn Γ'[i]? → σ[i]? = some (some (.ref q)) → q ≠ p := fun i q h1 h2 z => no ⟨i, h1, z ▸ h2⟩
    refine ⟨.ref p, _, J, rv, ⟨⟨g'.len, fun i sl hs => ?_⟩, g'.dis, g'.new, g'.mus, g'.muP, fun b w q i => ?_, fun b w q => ?_⟩, ⟨fun b w q i => ?_, fun b w q => ?_⟩, rp o⟩
    · have q := g'.ok i sl hs
      cases sl with
      | un => trivial
      | im d => obtain ⟨v, e1, e2⟩ := q; exact ⟨v, e1, e2.mono kp⟩
      | ow m' =>
        obtain ⟨p', e1, e2⟩ := q
        have ne : p' ≠ p := own i p' (by rw [hs]; trivial) e1
        exact ⟨p', e1, e2.same kp fun o e => by rw [upd_ne ne]; exact e⟩
      | mu m' =>
        obtain ⟨p', e1, e2⟩ := q
        have ne : p' ≠ p := own i p' (by rw [hs]; trivial) e1
        exact ⟨p', e1, e2.same kp fun o e => by rw [upd_ne ne]; exact e⟩
    · have np0 := g.free np
      rw [upd_ne (ne_of_none q np0)]; exact g'.fr b w q i
    · have np0 := g.free np
      obtain ⟨o', e'⟩ := g'.tr b w q
      exact ⟨o', by rw [upd_ne (ne_of_none q np0)]; exact e'⟩
    · rw [upd_ne (ne_of_none q np)]; exact sm.keep b w q i
    · obtain ⟨o', e'⟩ := sm.tr b w q
      exact ⟨o', by rw [upd_ne (ne_of_none q np)]; exact e'⟩
  have kp : ∀ (ho ho' : HO), H' p = some ho → ¬ Im ι ho → Kp ι H' (upd H' p ho') := fun ho ho' e ni b w q i => by
    by_cases hb : b = p
    · subst hb; rw [e] at q; cases q; exact absurd i ni
    · rw [upd_ne hb]; exact q
  cases m with
  | lst ds =>
    obtain ⟨vs, e, rr⟩ := z
    exact fin _ e trivial (fun z => z) fun o => .lst ⟨o, upd_same⟩ (rr.mono (kp _ _ e fun z => z))
  | dic ds =>
    obtain ⟨vs, e, rr⟩ := z
    exact fin _ e trivial (fun z => z) fun o => .dic ⟨o, upd_same⟩ (rr.mono (kp _ _ e fun z => z))
  | ins C fs => exact absurd rfl (hm C fs)
theorem ev_d (h : Ev X ι Γ e r Γ') (t : ToD r d) : Ev X ι Γ e (.im d) Γ' := by
  cases t with
  | im => exact h
  | lst => exact ev_fz h fun C fs z => nomatch z
  | dic => exact ev_fz h fun C fs z => nomatch z
theorem ev_ix (ha : Ev X ι Γ a (.im da) Γ1) (hb : Ev X ι Γ1 b (.im db) Γ2) (ho : IxOk X ι (.im da) (.im db) rr) (hs : PlainIx b := by exact fun _ _ => rfl) : Ev X ι Γ (.Subscript a b pos) rr Γ2 := by
  refine ⟨ha.1.trans hb.1, fun C σ H g => ?_⟩
  obtain ⟨q, hq, z⟩ := ho
  refine WE.of (pe_ix hq (pe_we X a) (pe_we X b) hs) ?_
  refine (ha.2 C σ H g).mono fun x H1 ⟨g1, s1, r1⟩ => ?_
  refine (hb.2 C σ H1 g1).mono fun y H2 ⟨g2, s2, r2⟩ => ?_
  have s12 := s1.trans ha.1 s2
  exact z H2 x y _ (Rep.mono s2.kp r1) r2 fun v H3 s3 r3 => ⟨g2.same s3, s12.trans (ha.1.trans hb.1) s3.frE, r3.olderE s12⟩
/-- .. where the first part is a name or the like, read ahead of the second, which leaves it -/
theorem ev_ixp (ha : Ep X ι Γ a ra) (hb : Ep X ι Γ b rb) (ho : IxOk X ι ra rb rr) (hs : PlainIx b := by exact fun _ _ => rfl) : Ev X ι Γ (.Subscript a b pos) rr Γ := ev_p (ep_ix ha hb ho hs)
inductive RVds (K : PySem.W.Frag) : List D → List R → Prop
  | nil : RVds K [] []
  | cons {d : D} {ds : List D} {rs : List R} : RVds K ds rs → RVds K (d :: ds) (.im d :: rs)
theorem RVds.rvs {K : PySem.W.Frag} {H : Hp} : ∀ {ds : List D} {rs : List R} {vs : List V}, RVds K ds rs → Reps K ι H ds vs → RVs K ι H rs vs
  | _, _, _, .nil, .nil => .nil
  | _, _, _, .cons h, .cons r t => .cons r (h.rvs t)
theorem ev_callB (S : Sx X sc N) {x : Str} {p : Pos} {id : String} (hg : glB sc x = true) (hm : X.mg x = none) (hv : bootBuiltins x = some (.builtin id)) (ha : Evds X ι Γ (e :: es) ds Γ') (hc : CallOk X ι (.builtin id) (ds.map R.im) rr)
    (he : starEach (e :: es) X.env = (false, eval e X.env) :: starEach es X.env := by rfl) (hpl : (backTo pos (starEach es X.env)).any (·.1) = false := by rfl) : Ev X ι Γ (.Call (.Name x p) (e :: es) [] pos) rr Γ' := by
  refine ⟨ha.1, fun C σ H g => ?_⟩
  obtain ⟨q, hq, z⟩ := hc
  refine WE.of (pe_callB hq (S.gl hg) hm hv (pa_wa X _) (gl_of hg).2.2 (gl_of hg).2.1 he hpl) ?_
  refine (ha.2 C σ H g).mono fun vs H1 ⟨g1, s1, r1⟩ => ?_
  have rv : ∀ {ds : List D} {vs : List V}, Reps X.K ι H1 ds vs → RVs X.K ι H1 (ds.map R.im) vs := by
    intro ds
    induction ds with
    | nil => intro vs h; cases h; exact .nil
    | cons d ds ih => intro vs h; cases h with | cons h t => exact .cons h (ih t)
  exact z H1 vs _ (rv r1) fun v H2 s2 r2 => ⟨g1.same s2, s1.trans ha.1 s2.frE, r2.olderE s1⟩
theorem ev_callTy (S : Sx X sc N) {x : Str} {p : Pos} {id : String} (hg : glB sc x = true) (hm : X.mg x = none) (hv : bootBuiltins x = some (.type id)) (ha : Evds X ι Γ (e :: es) ds Γ') (hc : CallOk X ι (.type id) (ds.map R.im) rr)
    (he : starEach (e :: es) X.env = (false, eval e X.env) :: starEach es X.env := by rfl) (hpl : (backTo pos (starEach es X.env)).any (·.1) = false := by rfl) : Ev X ι Γ (.Call (.Name x p) (e :: es) [] pos) rr Γ' := by
  refine ⟨ha.1, fun C σ H g => ?_⟩
  obtain ⟨q, hq, z⟩ := hc
  refine WE.of (pe_callTy hq (S.gl hg) hm hv (pa_wa X _) (gl_of hg).2.2 (gl_of hg).2.1 he hpl) ?_
  refine (ha.2 C σ H g).mono fun vs H1 ⟨g1, s1, r1⟩ => ?_
  have rv : ∀ {ds : List D} {vs : List V}, Reps X.K ι H1 ds vs → RVs X.K ι H1 (ds.map R.im) vs := by
    intro ds
    induction ds with
    | nil => intro vs h; cases h; exact .nil
    | cons d ds ih => intro vs h; cases h with | cons h t => exact .cons h (ih t)
  exact z H1 vs _ (rv r1) fun v H2 s2 r2 => ⟨g1.same s2, s1.trans ha.1 s2.frE, r2.olderE s1⟩
end
end DL
/-! DL, part d: what a def promises, calls of defs, statements. -/
namespace DL
open PySem PySem.Spec L2

/-! ### arguments -/
/-- an argument: data; a slot's own thing, lent; a new thing, lent -/
inductive A where
  | im (d : D) | bor (i : Nat) | tmp (m : M)
inductive AOks (K : PySem.W.Frag) (ι : Addr → Nat → Prop) (σ : St) (H H' : Hp) : List A → List V → List Addr → Prop
  | nil : AOks K ι σ H H' [] [] []
  | im {d : D} {v : V} {as : List A} {vs : List V} {ts : List Addr} : Rep K ι H' d v → AOks K ι σ H H' as vs ts → AOks K ι σ H H' (.im d :: as) (v :: vs) ts
  | bor {i : Nat} {p : Addr} {as : List A} {vs : List V} {ts : List Addr} : σ[i]? = some (some (.ref p)) → AOks K ι σ H H' as vs ts → AOks K ι σ H H' (.bor i :: as) (.ref p :: vs) ts
  | tmp {m : M} {p : Addr} {as : List A} {vs : List V} {ts : List Addr} : H p = none → MRep K ι H' p m → p ∉ ts → AOks K ι σ H H' as vs ts → AOks K ι σ H H' (.tmp m :: as) (.ref p :: vs) (p :: ts)
section
variable {K : PySem.W.Frag} {ι : Addr → Nat → Prop} {σ : St} {H H1 H' : Hp}
theorem AOks.older (k : ∀ p, H1 p = none → H p = none) : ∀ {as : List A} {vs : List V} {ts : List Addr}, AOks K ι σ H1 H' as vs ts → AOks K ι σ H H' as vs ts
  | _, _, _, .nil => .nil
  | _, _, _, .im h t => .im h (AOks.older k t)
  | _, _, _, .bor h t => .bor h (AOks.older k t)
  | _, _, _, .tmp h1 h2 h3 t => .tmp (k _ h1) h2 h3 (AOks.older k t)
theorem AOks.new : ∀ {as : List A} {vs : List V} {ts : List Addr}, AOks K ι σ H H' as vs ts → ∀ p ∈ ts, H p = none
  | _, _, _, .nil, p, h => by cases h
  | _, _, _, .im _ t, p, h => AOks.new t p h
  | _, _, _, .bor _ t, p, h => AOks.new t p h
  | _, _, _, .tmp h1 _ _ t, p, h => by
    rcases List.mem_cons.mp h with e | h
    · subst e; exact h1
    · exact AOks.new t p h
theorem AOks.length : ∀ {as : List A} {vs : List V} {ts : List Addr}, AOks K ι σ H H' as vs ts → vs.length = as.length
  | _, _, _, .nil => rfl
  | _, _, _, .im _ t => by rw [List.length_cons, List.length_cons, AOks.length t]
  | _, _, _, .bor _ t => by rw [List.length_cons, List.length_cons, AOks.length t]
  | _, _, _, .tmp _ _ _ t => by rw [List.length_cons, List.length_cons, AOks.length t]
theorem AOks.getIm {d : D} : ∀ {as : List A} {vs : List V} {ts : List Addr} {k : Nat}, AOks K ι σ H H' as vs ts → as[k]? = some (.im d) → ∃ v, vs[k]? = some v ∧ Rep K ι H' d v
  | _, _, _, _, .nil, e => by simp at e
  | _, _, _, 0, .im h t, e => by simp at e; subst e; exact ⟨_, rfl, h⟩
  | _, _, _, 0, .bor h t, e => by simp at e
  | _, _, _, 0, .tmp _ _ _ t, e => by simp at e
  | _, _, _, k + 1, .im h t, e => by simpa using AOks.getIm t (by simpa using e)
  | _, _, _, k + 1, .bor h t, e => by simpa using AOks.getIm t (by simpa using e)
  | _, _, _, k + 1, .tmp _ _ _ t, e => by simpa using AOks.getIm t (by simpa using e)
theorem AOks.getBor {i : Nat} : ∀ {as : List A} {vs : List V} {ts : List Addr} {k : Nat}, AOks K ι σ H H' as vs ts → as[k]? = some (.bor i) → ∃ p, vs[k]? = some (.ref p) ∧ σ[i]? = some (some (.ref p))
  | _, _, _, _, .nil, e => by simp at e
  | _, _, _, 0, .im h t, e => by simp at e
  | _, _, _, 0, .bor h t, e => by simp at e; subst e; exact ⟨_, rfl, h⟩
  | _, _, _, 0, .tmp _ _ _ t, e => by simp at e
  | _, _, _, k + 1, .im h t, e => by simpa using AOks.getBor t (by simpa using e)
  | _, _, _, k + 1, .bor h t, e => by simpa using AOks.getBor t (by simpa using e)
  | _, _, _, k + 1, .tmp _ _ _ t, e => by simpa using AOks.getBor t (by simpa using e)
theorem AOks.getTmp {m : M} : ∀ {as : List A} {vs : List V} {ts : List Addr} {k : Nat}, AOks K ι σ H H' as vs ts → as[k]? = some (.tmp m) → ∃ p, vs[k]? = some (.ref p) ∧ p ∈ ts ∧ MRep K ι H' p m
  | _, _, _, _, .nil, e => by simp at e
  | _, _, _, 0, .im h t, e => by simp at e
  | _, _, _, 0, .bor h t, e => by simp at e
  | _, _, _, 0, .tmp _ h _ t, e => by simp at e; subst e; exact ⟨_, rfl, List.mem_cons_self, h⟩
  | _, _, _, k + 1, .im h t, e => by simpa using AOks.getTmp t (by simpa using e)
  | _, _, _, k + 1, .bor h t, e => by simpa using AOks.getTmp t (by simpa using e)
  | _, _, _, k + 1, .tmp _ _ _ t, e => by
    obtain ⟨p, h1, h2, h3⟩ := AOks.getTmp t (k := k) (by simpa using e)
    exact ⟨p, by simpa using h1, List.mem_cons_of_mem _ h2, h3⟩
/-- two lent new things are two -/
theorem AOks.tmps {m m' : M} {p : Addr} : ∀ {as : List A} {vs : List V} {ts : List Addr} {k l : Nat}, AOks K ι σ H H' as vs ts → as[k]? = some (.tmp m) → as[l]? = some (.tmp m') → k < l → vs[k]? = some (.ref p) → vs[l]? = some (.ref p) → False
  | _, _, _, _, _, .nil, e, _, _, _, _ => by simp at e
  | _, _, _, 0, l + 1, .im h t, e, _, _, _, _ => by simp at e
  | _, _, _, 0, l + 1, .bor h t, e, _, _, _, _ => by simp at e
  | _, _, _, 0, l + 1, .tmp _ _ h t, _, e', _, e1, e2 => by
    obtain ⟨p', h1, h2, _⟩ := AOks.getTmp t (k := l) (by simpa using e')
    simp at e1 e2
    rw [h1] at e2
    cases e2
    subst e1
    exact h h2
  | _, _, _, k + 1, l + 1, .im h t, e, e', hl, e1, e2 => AOks.tmps t (by simpa using e) (by simpa using e') (Nat.lt_of_succ_lt_succ hl) (by simpa using e1) (by simpa using e2)
  | _, _, _, k + 1, l + 1, .bor h t, e, e', hl, e1, e2 => AOks.tmps t (by simpa using e) (by simpa using e') (Nat.lt_of_succ_lt_succ hl) (by simpa using e1) (by simpa using e2)
  | _, _, _, k + 1, l + 1, .tmp _ _ _ t, e, e', hl, e1, e2 => AOks.tmps t (by simpa using e) (by simpa using e') (Nat.lt_of_succ_lt_succ hl) (by simpa using e1) (by simpa using e2)
end

def Evas (X : Cx) (ι : Addr → Nat → Prop) (Γ : List Slot) (es : List Expr) (as : List A) (Γ' : List Slot) : Prop :=
  Kd Γ Γ' ∧ ∀ C σ H, EnvOk X.K ι C H σ Γ → WA X es σ H fun vs H' => EnvOk X.K ι C H' σ Γ' ∧ FrE ι σ Γ H H' ∧ ∃ ts, AOks X.K ι σ H H' as vs ts
section
variable {X : Cx} {ι : Addr → Nat → Prop} {Γ Γ1 Γ2 Γ' : List Slot} {sc : Scope} {N : List Str} {e a b : Expr} {es : List Expr} {pos : Pos} {r ra rb rr : R} {rs : List R} {d da db : D} {ds : List D} {as : List A} {m : M}
theorem evas_nil : Evas X ι Γ [] [] Γ := ⟨Kd.refl, fun C σ H g => WA.of pa_nil ⟨g, FrE.refl, [], .nil⟩⟩
theorem evas_im (h : Ev X ι Γ e (.im d) Γ1) (h' : Evas X ι Γ1 es as Γ2) (hs : starEach (e :: es) X.env = (false, eval e X.env) :: starEach es X.env := by rfl) : Evas X ι Γ (e :: es) (.im d :: as) Γ2 := by
  refine ⟨h.1.trans h'.1, fun C σ H g => ?_⟩
  refine WA.of (pa_cons (pe_we X e) (pa_wa X es) hs) ?_
  refine (h.2 C σ H g).mono fun v H1 ⟨g1, s1, r1⟩ => ?_
  refine (h'.2 C σ H1 g1).mono fun vs H2 ⟨g2, s2, ts, r2⟩ => ⟨g2, s1.trans h.1 s2, ts, .im (Rep.mono s2.kp r1) (r2.older fun p n => s1.free n)⟩
theorem evas_tmp (h : Ev X ι Γ e (.ow m) Γ1) (h' : Evas X ι Γ1 es as Γ2) (hs : starEach (e :: es) X.env = (false, eval e X.env) :: starEach es X.env := by rfl) : Evas X ι Γ (e :: es) (.tmp m :: as) Γ2 := by
  refine ⟨h.1.trans h'.1, fun C σ H g => ?_⟩
  refine WA.of (pa_cons (pe_we X e) (pa_wa X es) hs) ?_
  refine (h.2 C σ H g).mono fun v H1 ⟨g1, s1, p, ev, np, r1⟩ => ?_
  subst ev
  refine (h'.2 C σ H1 g1).mono fun vs H2 ⟨g2, s2, ts, r2⟩ => ⟨g2, s1.trans h.1 s2, p :: ts, .tmp np (r1.same s2.kp fun o q => s2.keep p o q (.inr fun z => g.toEnvR.notOwned np (h.1.owned z))) (fun z => ?_) (r2.older fun p n => s1.free n)⟩
  have q := r2.new p z
  obtain ⟨o, e⟩ := r1.there
  rw [q] at e; cases e
theorem evas_bor (S : Sx X sc N) (i : Nat) {x : Str} (hN : N[i]? = some x) (hv : visB sc x = true) (ho : isOwn Γ[i]?) (h' : Evas X ι Γ es as Γ2) (hs : starEach (.Name x pos :: es) X.env = (false, eval (.Name x pos) X.env) :: starEach es X.env := by rfl) : Evas X ι Γ (.Name x pos :: es) (.bor i :: as) Γ2 := by
  refine ⟨h'.1, fun C σ H g => ?_⟩
  obtain ⟨v1, v2, v3⟩ := vis_of hv
  refine WA.of (pa_cons (pe_var (i := i) (by rw [S.hN]; exact hN) (by rw [S.hsc]; exact v1) v2 v3) (pa_wa X es) hs) ?_
  obtain ⟨p, hp⟩ : ∃ p, σ[i]? = some (some (.ref p)) := by
    cases q : Γ[i]? with
    | none => rw [q] at ho; exact ho.elim
    | some s =>
      have z := g.ok i s q
      rw [q] at ho
      cases s with
      | un => exact ho.elim
      | im d => exact ho.elim
      | ow m => obtain ⟨p, e, _⟩ := z; exact ⟨p, e⟩
      | mu m => obtain ⟨p, e, _⟩ := z; exact ⟨p, e⟩
  refine ⟨_, hp, ?_⟩
  exact (h'.2 C σ H g).mono fun vs H2 ⟨g2, s2, ts, r2⟩ => ⟨g2, s2, ts, .bor hp r2⟩
theorem evas_d (h : Eds X ι Γ es ds) : Evas X ι Γ es (ds.map A.im) Γ := by
  refine ⟨Kd.refl, fun C σ H g => (h σ H g.toEnvR).mono fun vs H1 ⟨s1, r1⟩ => ⟨g.same s1, s1.frE, [], ?_⟩⟩
  have rv : ∀ {ds : List D} {vs : List V}, Reps X.K ι H1 ds vs → AOks X.K ι σ H H1 (ds.map A.im) vs [] := by
    intro ds
    induction ds with
    | nil => intro vs h; cases h; exact .nil
    | cons d ds ih => intro vs h; cases h with | cons h t => exact .im h (ih t)
  exact rv r1
end

/-! ### a def's promise -/
inductive Out where
  | ret (r : R) (fs : List Slot)
  | exc (C : Addr) (fl : List (Str × D)) (fs : List Slot)
def muAt (ss : List Slot) (i : Nat) : Prop := ∃ m, ss[i]? = some (.mu m)
structure ArgsOk (K : PySem.W.Frag) (ι : Addr → Nat → Prop) (H : Hp) (vs : List V) (ss : List Slot) : Prop where
  len : vs.length = ss.length
  im : ∀ (i : Nat) (d : D), ss[i]? = some (.im d) → ∃ v, vs[i]? = some v ∧ Rep K ι H d v
  mu : ∀ (i : Nat) (m : M), ss[i]? = some (.mu m) → ∃ p, vs[i]? = some (.ref p) ∧ MRep K ι H p m
  no : ∀ (i : Nat) (m : M), ss[i]? ≠ some (.ow m)
  dis : ∀ (i j : Nat) (p : Addr), i ≠ j → muAt ss i → muAt ss j → vs[i]? = some (.ref p) → vs[j]? = some (.ref p) → False
/-- what has happened behind a call -/
structure Post (K : PySem.W.Frag) (ι : Addr → Nat → Prop) (H : Hp) (vs : List V) (ss fs : List Slot) (H' : Hp) : Prop where
  keep : ∀ (b : Addr) (o : HO), H b = some o → (Im ι o ∨ ∀ i, muAt ss i → vs[i]? ≠ some (.ref b)) → H' b = some o
  tr : ∀ (b : Addr) (o : HO), H b = some o → ∃ o', H' b = some o'
  fin : ∀ (i : Nat) (m : M), fs[i]? = some (.mu m) → ∃ p, vs[i]? = some (.ref p) ∧ MRep K ι H' p m
/-- an exception's own dict -/
def XdOk (K : PySem.W.Frag) (ι : Addr → Nat → Prop) (H' : Hp) (fl : List (Str × D)) (d : Option Addr) : Prop :=
  match fl with
  | [] => True
  | _ => ∃ a fs', d = some a ∧ H' a = some (.xd fs') ∧ RepF K ι H' fl fs'
abbrev FR := List Slot → Out → Prop
def spD (K : PySem.W.Frag) (ι : Addr → Nat → Prop) (n : Nat) (F : FR) : Sp := fun vs H Q E => vs.length = n ∧ ∃ ss o, F ss o ∧ ArgsOk K ι H vs ss ∧
  match o with
  | .ret r fs => ∀ v H', Post K ι H vs ss fs H' → ROk K ι H H' r v → Q v H'
  | .exc C fl fs => ∀ d H', Post K ι H vs ss fs H' → XdOk K ι H' fl d → E (.ref C) d H'
/-- the def called x: what it promises -/
structure DefAt (P : Program) (w : World) (K : PySem.W.Frag) (mg : Str → Option Value) (base : Heap) (ι : Addr → Nat → Prop) (k : Nat) (x : Str) (n : Nat) (F : FR) : Prop where
  ex : ∃ f fd ps, FnOk P w K mg base (L2.CX P w) k f fd ps (spD K ι n F) ∧ mg x = some (.ref f) ∧ PySem.W.keepIn K (.ref f) = true ∧ Binds K fd ps [] ∧ ps.length = n

/-! ### lending and taking back -/
inductive Argz (Γ : List Slot) : List A → List Slot → Prop
  | nil : Argz Γ [] []
  | im {d : D} {as : List A} {ss : List Slot} : Argz Γ as ss → Argz Γ (.im d :: as) (.im d :: ss)
  | borO {i : Nat} {m : M} {as : List A} {ss : List Slot} : Γ[i]? = some (.ow m) → Argz Γ as ss → Argz Γ (.bor i :: as) (.mu m :: ss)
  | borM {i : Nat} {m : M} {as : List A} {ss : List Slot} : Γ[i]? = some (.mu m) → Argz Γ as ss → Argz Γ (.bor i :: as) (.mu m :: ss)
  | tmp {m : M} {as : List A} {ss : List Slot} : Argz Γ as ss → Argz Γ (.tmp m :: as) (.mu m :: ss)
inductive Wb : List Slot → List A → List Slot → List Slot → Prop
  | nil {Γ : List Slot} {fs : List Slot} : Wb Γ [] fs Γ
  | im {Γ Γ' : List Slot} {d : D} {as : List A} {f : Slot} {fs : List Slot} : Wb Γ as fs Γ' → Wb Γ (.im d :: as) (f :: fs) Γ'
  | tmp {Γ Γ' : List Slot} {m : M} {as : List A} {f : Slot} {fs : List Slot} : Wb Γ as fs Γ' → Wb Γ (.tmp m :: as) (f :: fs) Γ'
  | borO {Γ Γ' : List Slot} {i : Nat} {m0 m : M} {as : List A} {fs : List Slot} : Γ[i]? = some (.ow m0) → Wb (Γ.set i (.ow m)) as fs Γ' → Wb Γ (.bor i :: as) (.mu m :: fs) Γ'
  | borM {Γ Γ' : List Slot} {i : Nat} {m0 m : M} {as : List A} {fs : List Slot} : Γ[i]? = some (.mu m0) → Wb (Γ.set i (.mu m)) as fs Γ' → Wb Γ (.bor i :: as) (.mu m :: fs) Γ'
/-- no slot is lent twice -/
def once : List A → List Nat → Bool
  | [], _ => true
  | .bor i :: as, l => !l.contains i && once as (i :: l)
  | _ :: as, l => once as l
section
variable {Γ Γ' : List Slot} {as : List A} {ss fs : List Slot}
theorem once_no {j : Nat} : ∀ {as : List A} {l : List Nat}, once as l = true → j ∈ l → ∀ k : Nat, as[k]? ≠ some (A.bor j)
  | [], _, _, _, k, e => by simp at e
  | .bor i :: as, l, h, hj, 0, e => by
    simp at e; subst e
    simp [once] at h
    exact h.1 hj
  | .bor i :: as, l, h, hj, k + 1, e => by
    simp [once] at h
    exact once_no (l := i :: l) h.2 (List.mem_cons_of_mem _ hj) k (by simpa using e)
  | .im d :: as, l, h, hj, 0, e => by simp at e
  | .im d :: as, l, h, hj, k + 1, e => once_no (l := l) (by simpa [once] using h) hj k (by simpa using e)
  | .tmp d :: as, l, h, hj, 0, e => by simp at e
  | .tmp d :: as, l, h, hj, k + 1, e => once_no (l := l) (by simpa [once] using h) hj k (by simpa using e)
theorem Wb.spec : ∀ {Γ Γ' : List Slot} {as : List A} {fs : List Slot} {l : List Nat}, Wb Γ as fs Γ' → once as l = true → Γ'.length = Γ.length ∧
    ∀ j : Nat, ((∀ k : Nat, as[k]? ≠ some (.bor j)) → Γ'[j]? = Γ[j]?) ∧ ∀ k : Nat, as[k]? = some (.bor j) → ∃ m m0, fs[k]? = some (.mu m) ∧ ((Γ[j]? = some (.ow m0) ∧ Γ'[j]? = some (.ow m)) ∨ (Γ[j]? = some (.mu m0) ∧ Γ'[j]? = some (.mu m)))
  | _, _, _, _, l, .nil, _ => ⟨rfl, fun j => ⟨fun _ => rfl, fun k e => by simp at e⟩⟩
  | _, _, _, _, l, .im t, h => by
    obtain ⟨h1, h2⟩ := Wb.spec (l := l) t (by simpa [once] using h)
    refine ⟨h1, fun j => ⟨fun n => (h2 j).1 fun k e => n (k + 1) (by simpa using e), fun k e => ?_⟩⟩
    cases k with
    | zero => simp at e
    | succ k => simpa using (h2 j).2 k (by simpa using e)
  | _, _, _, _, l, .tmp t, h => by
    obtain ⟨h1, h2⟩ := Wb.spec (l := l) t (by simpa [once] using h)
    refine ⟨h1, fun j => ⟨fun n => (h2 j).1 fun k e => n (k + 1) (by simpa using e), fun k e => ?_⟩⟩
    cases k with
    | zero => simp at e
    | succ k => simpa using (h2 j).2 k (by simpa using e)
  | Γ, _, _, _, l, .borO (i := i) (m := m) (m0 := m0) e0 t, h => by
    simp [once] at h
    obtain ⟨h1, h2⟩ := Wb.spec (l := i :: l) t h.2
    have hi : i < Γ.length := (List.getElem?_eq_some_iff.mp e0).1
    refine ⟨by rw [h1, List.length_set], fun j => ⟨fun n => ?_, fun k e => ?_⟩⟩
    · rw [(h2 j).1 fun k e => n (k + 1) (by simpa using e)]
      exact List.getElem?_set_ne fun z => n 0 (by simp [z])
    · cases k with
      | zero =>
        simp at e; subst e
        refine ⟨m, m0, rfl, .inl ⟨e0, ?_⟩⟩
        rw [(h2 i).1 (once_no h.2 List.mem_cons_self), List.getElem?_set_self hi]
      | succ k =>
        have e' : _ := (h2 j).2 k (by simpa using e)
        have ne : i ≠ j := fun z => once_no h.2 (show j ∈ i :: l by rw [z]; exact List.mem_cons_self) k (by simpa using e)
        rw [List.getElem?_set_ne ne] at e'
        simpa using e'
  | Γ, _, _, _, l, .borM (i := i) (m := m) (m0 := m0) e0 t, h => by
    simp [once] at h
    obtain ⟨h1, h2⟩ := Wb.spec (l := i :: l) t h.2
    have hi : i < Γ.length := (List.getElem?_eq_some_iff.mp e0).1
    refine ⟨by rw [h1, List.length_set], fun j => ⟨fun n => ?_, fun k e => ?_⟩⟩
    · rw [(h2 j).1 fun k e => n (k + 1) (by simpa using e)]
      exact List.getElem?_set_ne fun z => n 0 (by simp [z])
    · cases k with
      | zero =>
        simp at e; subst e
        refine ⟨m, m0, rfl, .inr ⟨e0, ?_⟩⟩
        rw [(h2 i).1 (once_no h.2 List.mem_cons_self), List.getElem?_set_self hi]
      | succ k =>
        have e' : _ := (h2 j).2 k (by simpa using e)
        have ne : i ≠ j := fun z => once_no h.2 (show j ∈ i :: l by rw [z]; exact List.mem_cons_self) k (by simpa using e)
        rw [List.getElem?_set_ne ne] at e'
        simpa using e'
theorem Argz.spec : ∀ {as : List A} {ss : List Slot}, Argz Γ as ss → ss.length = as.length ∧ ∀ (k : Nat) (s : Slot), ss[k]? = some s → (∃ d, s = .im d ∧ as[k]? = some (.im d)) ∨ (∃ m, s = .mu m ∧ ((∃ i, as[k]? = some (.bor i) ∧ (Γ[i]? = some (.ow m) ∨ Γ[i]? = some (.mu m))) ∨ as[k]? = some (.tmp m)))
  | _, _, .nil => ⟨rfl, fun k s e => by simp at e⟩
  | _, _, .im t => by
    obtain ⟨h1, h2⟩ := Argz.spec t
    refine ⟨by simp [h1], fun k s e => ?_⟩
    cases k with
    | zero => simp at e; subst e; exact .inl ⟨_, rfl, rfl⟩
    | succ k => simpa using h2 k s (by simpa using e)
  | _, _, .borO h t => by
    obtain ⟨h1, h2⟩ := Argz.spec t
    refine ⟨by simp [h1], fun k s e => ?_⟩
    cases k with
    | zero => simp at e; subst e; exact .inr ⟨_, rfl, .inl ⟨_, rfl, .inl h⟩⟩
    | succ k => simpa using h2 k s (by simpa using e)
  | _, _, .borM h t => by
    obtain ⟨h1, h2⟩ := Argz.spec t
    refine ⟨by simp [h1], fun k s e => ?_⟩
    cases k with
    | zero => simp at e; subst e; exact .inr ⟨_, rfl, .inl ⟨_, rfl, .inr h⟩⟩
    | succ k => simpa using h2 k s (by simpa using e)
  | _, _, .tmp t => by
    obtain ⟨h1, h2⟩ := Argz.spec t
    refine ⟨by simp [h1], fun k s e => ?_⟩
    cases k with
    | zero => simp at e; subst e; exact .inr ⟨_, rfl, .inr rfl⟩
    | succ k => simpa using h2 k s (by simpa using e)
theorem once_two {i : Nat} : ∀ {as : List A} {l : List Nat} {k j : Nat}, once as l = true → as[k]? = some (.bor i) → as[j]? = some (.bor i) → k = j
  | [], _, _, _, _, e, _ => by simp at e
  | _ :: _, _, 0, 0, _, _, _ => rfl
  | .bor i' :: as, l, 0, j + 1, h, e, e' => by
    simp at e; subst e
    simp [once] at h
    exact (once_no h.2 List.mem_cons_self j (by simpa using e')).elim
  | .bor i' :: as, l, k + 1, 0, h, e, e' => by
    simp at e'; subst e'
    simp [once] at h
    exact (once_no h.2 List.mem_cons_self k (by simpa using e)).elim
  | .im d :: as, l, 0, j + 1, h, e, e' => by simp at e
  | .im d :: as, l, k + 1, 0, h, e, e' => by simp at e'
  | .tmp d :: as, l, 0, j + 1, h, e, e' => by simp at e
  | .tmp d :: as, l, k + 1, 0, h, e, e' => by simp at e'
  | .bor i' :: as, l, k + 1, j + 1, h, e, e' => by
    simp [once] at h
    exact congrArg _ (once_two h.2 (by simpa using e) (by simpa using e'))
  | .im d :: as, l, k + 1, j + 1, h, e, e' => congrArg _ (once_two (l := l) (by simpa [once] using h) (by simpa using e) (by simpa using e'))
  | .tmp d :: as, l, k + 1, j + 1, h, e, e' => congrArg _ (once_two (l := l) (by simpa [once] using h) (by simpa using e) (by simpa using e'))
end
end DL
/-! DL, part e: the call of a def, a def by its body, statements. -/
namespace DL
open PySem PySem.Spec L2

section
variable {X : Cx} {ι : Addr → Nat → Prop} {Γ Γ1 Γ2 Γ' : List Slot} {sc : Scope} {N : List Str} {e a b : Expr} {es : List Expr} {pos : Pos} {r : R} {as : List A} {ss fs : List Slot} {K : PySem.W.Frag} {C : Cf} {σ : St} {H H' : Hp} {vs : List V} {ts : List Addr}
theorem isOwn_of {s : Option Slot} {m : M} (h : s = some (.ow m) ∨ s = some (.mu m)) : isOwn s := by
  rcases h with h | h <;> rw [h] <;> trivial
theorem args_ok (g : EnvOk K ι C H' σ Γ1) (f : ∀ p, OwnedBy σ Γ1 p → ∃ o, H p = some o) (ha : AOks K ι σ H H' as vs ts) (hz : Argz Γ1 as ss) (hn : once as [] = true) : ArgsOk K ι H' vs ss := by
  obtain ⟨hl, hs⟩ := hz.spec
  refine ⟨by rw [ha.length, hl], fun i d e => ?_, fun i m e => ?_, fun i m e => ?_, fun i j p ne hi hj e1 e2 => ?_⟩
  · rcases hs i _ e with ⟨d', e1, e2⟩ | ⟨m, e1, _⟩
    · cases e1; exact ha.getIm e2
    · cases e1
  · rcases hs i _ e with ⟨d', e1, e2⟩ | ⟨m', e1, ⟨j, e2, e3⟩ | e2⟩
    · cases e1
    · cases e1
      obtain ⟨p, h1, h2⟩ := ha.getBor e2
      refine ⟨p, h1, ?_⟩
      rcases e3 with e3 | e3
      all_goals
        have q := g.ok j _ e3
        obtain ⟨p', h3, h4⟩ := q
        rw [h2] at h3; cases h3
        exact h4
    · cases e1
      obtain ⟨p, h1, _, h2⟩ := ha.getTmp e2
      exact ⟨p, h1, h2⟩
  · rcases hs i _ e with ⟨d', e1, e2⟩ | ⟨m', e1, _⟩ <;> cases e1
  · obtain ⟨m, hi⟩ := hi
    obtain ⟨m', hj⟩ := hj
    rcases hs i _ hi with ⟨_, q, _⟩ | ⟨_, q, qi⟩
    · cases q
    rcases hs j _ hj with ⟨_, q', _⟩ | ⟨_, q', qj⟩
    · cases q'
    cases q; cases q'
    rcases qi with ⟨k, b1, b2⟩ | b1 <;> rcases qj with ⟨l, c1, c2⟩ | c1
    · obtain ⟨p1, x1, x2⟩ := ha.getBor b1
      obtain ⟨p2, y1, y2⟩ := ha.getBor c1
      rw [e1] at x1; cases x1
      rw [e2] at y1; cases y1
      by_cases hkl : k = l
      · subst hkl; exact ne (once_two hn b1 c1)
      · exact g.dis k l _ hkl (isOwn_of b2) (isOwn_of c2) x2 y2
    · obtain ⟨p1, x1, x2⟩ := ha.getBor b1
      obtain ⟨p2, y1, y2, _⟩ := ha.getTmp c1
      rw [e1] at x1; cases x1
      rw [e2] at y1; cases y1
      obtain ⟨o, z⟩ := f _ ⟨k, isOwn_of b2, x2⟩
      rw [ha.new _ y2] at z; cases z
    · obtain ⟨p1, x1, x2⟩ := ha.getBor c1
      obtain ⟨p2, y1, y2, _⟩ := ha.getTmp b1
      rw [e2] at x1; cases x1
      rw [e1] at y1; cases y1
      obtain ⟨o, z⟩ := f _ ⟨l, isOwn_of c2, x2⟩
      rw [ha.new _ y2] at z; cases z
    · rcases Nat.lt_or_gt_of_ne ne with h | h
      · exact ha.tmps b1 c1 h e1 e2
      · exact ha.tmps c1 b1 h e2 e1
/-- behind a call the slots are as they are told -/
theorem back_ok {H2 : Hp} (f0 : ∀ p, H p = none → C.H0 p = none) (g : EnvOk K ι C H' σ Γ1) (f : ∀ p, OwnedBy σ Γ1 p → ∃ o, H p = some o) (ha : AOks K ι σ H H' as vs ts) (hz : Argz Γ1 as ss) (hn : once as [] = true) (hp : Post K ι H' vs ss fs H2) (hw : Wb Γ1 as fs Γ2) :
    EnvOk K ι C H2 σ Γ2 ∧ Kd Γ1 Γ2 ∧ ∀ (b : Addr) (o : HO), H b = some o → H' b = some o → (Im ι o ∨ ¬ OwnedBy σ Γ1 b) → H2 b = some o := by
  obtain ⟨hl, hs⟩ := hz.spec
  obtain ⟨wl, ws⟩ := hw.spec hn
  have kd : Kd Γ1 Γ2 := fun j h => by
    by_cases hb : ∀ k : Nat, as[k]? ≠ some (.bor j)
    · rw [(ws j).1 hb] at h; exact h
    · obtain ⟨k, hk⟩ := Classical.not_forall.mp hb
      obtain ⟨m, m0, _, z⟩ := (ws j).2 k (Classical.not_not.mp hk)
      rcases z with ⟨z, _⟩ | ⟨z, _⟩ <;> rw [z] <;> trivial
  have own_of : ∀ (i : Nat) (m : M), (Γ2[i]? = some (.ow m) ∨ Γ2[i]? = some (.mu m)) → isOwn Γ1[i]? := fun i m h => kd i (isOwn_of h)
  -- whose is what is lent
  have lent : ∀ (i : Nat) (q : Addr), muAt ss i → vs[i]? = some (.ref q) → OwnedBy σ Γ1 q ∨ H q = none := fun i q hi e => by
    obtain ⟨m, hi⟩ := hi
    rcases hs i _ hi with ⟨_, z, _⟩ | ⟨_, z, ⟨k, b1, b2⟩ | b1⟩
    · cases z
    · obtain ⟨p1, x1, x2⟩ := ha.getBor b1
      rw [e] at x1; cases x1
      exact .inl ⟨k, isOwn_of b2, x2⟩
    · obtain ⟨p2, y1, y2, _⟩ := ha.getTmp b1
      rw [e] at y1; cases y1
      exact .inr (ha.new _ y2)
  have kept : ∀ (b : Addr) (o : HO), H b = some o → H' b = some o → (Im ι o ∨ ¬ OwnedBy σ Γ1 b) → H2 b = some o := fun b o e0 e i => by
    refine hp.keep b o e (i.imp id fun n k hk z => ?_)
    rcases lent k b hk z with q | q
    · exact n q
    · rw [e0] at q; cases q
  have kp : Kp ι H' H2 := fun b o e i => hp.keep b o e (.inl i)
  -- an own thing that is not lent stays
  have stays : ∀ (j : Nat) (q : Addr), isOwn Γ1[j]? → σ[j]? = some (some (.ref q)) → (∀ k : Nat, as[k]? ≠ some (.bor j)) → ∀ o, H' q = some o → H2 q = some o := fun j q hj e nb o ho => by
    refine hp.keep q o ho (.inr fun k hk z => ?_)
    obtain ⟨m, hk⟩ := hk
    rcases hs k _ hk with ⟨_, z', _⟩ | ⟨_, z', ⟨i, b1, b2⟩ | b1⟩
    · cases z'
    · obtain ⟨p1, x1, x2⟩ := ha.getBor b1
      rw [z] at x1; cases x1
      by_cases hij : i = j
      · subst hij; exact nb _ b1
      · exact g.dis i j _ hij (isOwn_of b2) hj x2 e
    · obtain ⟨p2, y1, y2, _⟩ := ha.getTmp b1
      rw [z] at y1; cases y1
      obtain ⟨o', z2⟩ := f _ ⟨j, hj, e⟩
      rw [ha.new _ y2] at z2; cases z2
  refine ⟨⟨⟨by rw [g.len, wl], fun j s e => ?_⟩, fun i j p ne hi hj e1 e2 => g.dis i j p ne (kd i hi) (kd j hj) e1 e2, fun i m p e1 e2 => ?_, fun i m p e1 e2 => ?_, fun i p e => ?_, fun b o e i => ?_, fun b o e => ?_⟩, kd, kept⟩
  · by_cases hb : ∀ k : Nat, as[k]? ≠ some (.bor j)
    · rw [(ws j).1 hb] at e
      have q := g.ok j s e
      cases s with
      | un => trivial
      | im d => obtain ⟨v, x, y⟩ := q; exact ⟨v, x, y.mono kp⟩
      | ow m => obtain ⟨p, x, y⟩ := q; exact ⟨p, x, y.same kp fun o z => stays j p (by rw [e]; trivial) x hb o z⟩
      | mu m => obtain ⟨p, x, y⟩ := q; exact ⟨p, x, y.same kp fun o z => stays j p (by rw [e]; trivial) x hb o z⟩
    · obtain ⟨k, hk⟩ := Classical.not_forall.mp hb
      have hk := Classical.not_not.mp hk
      obtain ⟨m, m0, hf, z⟩ := (ws j).2 k hk
      obtain ⟨p, h1, h2⟩ := ha.getBor hk
      obtain ⟨p', h3, h4⟩ := hp.fin k m hf
      rw [h1] at h3; cases h3
      rcases z with ⟨_, z⟩ | ⟨_, z⟩
      all_goals
        rw [z] at e; cases e
        exact ⟨_, h2, h4⟩
  · by_cases hb : ∀ k : Nat, as[k]? ≠ some (.bor i)
    · rw [(ws i).1 hb] at e1; exact g.new i m p e1 e2
    · obtain ⟨k, hk⟩ := Classical.not_forall.mp hb
      obtain ⟨m1, m0, _, z⟩ := (ws i).2 k (Classical.not_not.mp hk)
      rcases z with ⟨z, _⟩ | ⟨_, z⟩
      · exact g.new i m0 p z e2
      · rw [z] at e1; cases e1
  · by_cases hb : ∀ k : Nat, as[k]? ≠ some (.bor i)
    · rw [(ws i).1 hb] at e1; exact g.mus i m p e1 e2
    · obtain ⟨k, hk⟩ := Classical.not_forall.mp hb
      obtain ⟨m1, m0, _, z⟩ := (ws i).2 k (Classical.not_not.mp hk)
      rcases z with ⟨_, z⟩ | ⟨z, _⟩
      · rw [z] at e1; cases e1
      · exact g.mus i m0 p z e2
  · obtain ⟨m, hm⟩ := g.muP i p e
    by_cases hb : ∀ k : Nat, as[k]? ≠ some (.bor i)
    · exact ⟨m, by rw [(ws i).1 hb]; exact hm⟩
    · obtain ⟨k, hk⟩ := Classical.not_forall.mp hb
      obtain ⟨m1, m0, _, z⟩ := (ws i).2 k (Classical.not_not.mp hk)
      rcases z with ⟨z, _⟩ | ⟨_, z⟩
      · rw [hm] at z; cases z
      · exact ⟨m1, z⟩
  · refine hp.keep b o (g.fr b o e i) (i.imp id fun n k hk z => ?_)
    obtain ⟨m, hk⟩ := hk
    rcases hs k _ hk with ⟨_, z', _⟩ | ⟨_, z', ⟨j, b1, b2⟩ | b1⟩
    · cases z'
    · obtain ⟨p1, x1, x2⟩ := ha.getBor b1
      rw [z] at x1; cases x1
      rcases b2 with b2 | b2
      · rw [g.new j _ _ b2 x2] at e; cases e
      · exact n j (g.mus j _ _ b2 x2)
    · obtain ⟨p2, y1, y2, _⟩ := ha.getTmp b1
      rw [z] at y1; cases y1
      rw [f0 _ (ha.new _ y2)] at e; cases e
  · obtain ⟨o1, e1⟩ := g.tr b o e
    exact hp.tr b o1 e1

/-! ### calls -/
theorem ev_call {k n : Nat} {x : Str} {p : Pos} {F : FR} (S : Sx X sc N) (G : DefAt X.prog X.w X.K X.mg X.base ι k x n F) (hr : Room k X.A) (hg : glB sc x = true) (ha : Evas X ι Γ (e :: es) as Γ1) (hz : Argz Γ1 as ss) (hF : F ss (.ret r fs)) (hw : Wb Γ1 as fs Γ2)
    (hl : as.length = n := by rfl) (hn : once as [] = true := by rfl)
    (he : starEach (e :: es) X.env = (false, eval e X.env) :: starEach es X.env := by rfl) (hpl : (backTo pos (starEach es X.env)).any (·.1) = false := by rfl) : Ev X ι Γ (.Call (.Name x p) (e :: es) [] pos) r Γ2 := by
  have kd2 : Kd Γ1 Γ2 := fun j h => by
    obtain ⟨wl, ws⟩ := hw.spec hn
    by_cases hb : ∀ k : Nat, as[k]? ≠ some (.bor j)
    · rw [(ws j).1 hb] at h; exact h
    · obtain ⟨k, hk⟩ := Classical.not_forall.mp hb
      obtain ⟨m, m0, _, z⟩ := (ws j).2 k (Classical.not_not.mp hk)
      rcases z with ⟨z, _⟩ | ⟨z, _⟩ <;> rw [z] <;> trivial
  refine ⟨ha.1.trans kd2, fun C σ H g => ?_⟩
  obtain ⟨f, fd, ps, Fo, hm, hk, hb, hpn⟩ := G.ex
  refine WE.of (pe_call Fo hr (S.gl hg) hm hk hb .nil passL (pa_wa X _) (gl_of hg).2.1 he hpl) ?_
  refine (ha.2 C σ H g).mono fun vs H1 ⟨g1, s1, ts, r1⟩ => ?_
  have fo : ∀ p, OwnedBy σ Γ1 p → ∃ o, H p = some o := fun p h => g.toEnvR.owned (ha.1.owned h)
  show spD X.K ι n F (vs ++ []) H1 _ _
  rw [List.append_nil]
  refine ⟨by rw [r1.length]; exact hl, ss, .ret r fs, hF, args_ok g1 fo r1 hz hn, fun v H' hp hv => ?_⟩
  obtain ⟨g2, _, kp⟩ := back_ok (fun p h => g.free h) g1 fo r1 hz hn hp hw
  exact ⟨g2, ⟨fun b o e i => kp b o e (s1.keep b o e i) (i.imp id fun q z => q (ha.1.owned z)), fun b o e => let ⟨o1, e1⟩ := s1.tr b o e; hp.tr b o1 e1⟩, hv.olderE s1⟩
theorem argz_im {Γ : List Slot} : ∀ ds : List D, Argz Γ (ds.map A.im) (ds.map Slot.im)
  | [] => .nil
  | _ :: ds => .im (argz_im ds)
theorem args_im {H1 : Hp} {ds : List D} {vs : List V} (h : Reps K ι H1 ds vs) : ArgsOk K ι H1 vs (ds.map Slot.im) := by
  refine ⟨by rw [h.length, List.length_map], fun i d e => ?_, fun i m e => ?_, fun i m e => ?_, fun i j p ne hi hj e1 e2 => ?_⟩
  · rw [List.getElem?_map] at e
    cases q : ds[i]? with
    | none => rw [q] at e; cases e
    | some d' => rw [q] at e; cases e; exact h.get q
  · rw [List.getElem?_map] at e
    cases q : ds[i]? with
    | none => rw [q] at e; cases e
    | some d' => rw [q] at e; cases e
  · rw [List.getElem?_map] at e
    cases q : ds[i]? with
    | none => rw [q] at e; cases e
    | some d' => rw [q] at e; cases e
  · obtain ⟨m, e⟩ := hi
    rw [List.getElem?_map] at e
    cases q : ds[i]? with
    | none => rw [q] at e; cases e
    | some d' => rw [q] at e; cases e
theorem no_mu {ds : List D} {i : Nat} (h : muAt (ds.map Slot.im) i) : False := by
  obtain ⟨m, e⟩ := h
  rw [List.getElem?_map] at e
  cases q : ds[i]? with
  | none => rw [q] at e; cases e
  | some d' => rw [q] at e; cases e
/-- all arguments data: nothing changes -/
theorem ep_call {k n : Nat} {x : Str} {p : Pos} {F : FR} {ds : List D} (S : Sx X sc N) (G : DefAt X.prog X.w X.K X.mg X.base ι k x n F) (hr : Room k X.A) (hg : glB sc x = true) (ha : Eds X ι Γ (e :: es) ds) (hF : F (ds.map Slot.im) (.ret r fs)) (hl : ds.length = n := by rfl)
    (he : starEach (e :: es) X.env = (false, eval e X.env) :: starEach es X.env := by rfl) (hpl : (backTo pos (starEach es X.env)).any (·.1) = false := by rfl) : Ep X ι Γ (.Call (.Name x p) (e :: es) [] pos) r := by
  intro σ H g
  obtain ⟨f, fd, ps, Fo, hm, hk, hb, hpn⟩ := G.ex
  refine WE.of (pe_call Fo hr (S.gl hg) hm hk hb .nil passL (pa_wa X _) (gl_of hg).2.1 he hpl) ?_
  refine (ha σ H g).mono fun vs H1 ⟨s1, r1⟩ => ?_
  show spD X.K ι n F (vs ++ []) H1 _ _
  rw [List.append_nil]
  refine ⟨by rw [r1.length]; exact hl, _, .ret r fs, hF, args_im r1, fun v H' hp hv => ⟨s1.trans fun b o e => hp.keep b o e (.inr fun i h => (no_mu h).elim), hv.older s1⟩⟩
theorem ev_callP {k n : Nat} {x : Str} {p : Pos} {F : FR} {ds : List D} (S : Sx X sc N) (G : DefAt X.prog X.w X.K X.mg X.base ι k x n F) (hr : Room k X.A) (hg : glB sc x = true) (ha : Evds X ι Γ (e :: es) ds Γ1) (hF : F (ds.map Slot.im) (.ret r fs)) (hl : ds.length = n := by rfl)
    (he : starEach (e :: es) X.env = (false, eval e X.env) :: starEach es X.env := by rfl) (hpl : (backTo pos (starEach es X.env)).any (·.1) = false := by rfl) : Ev X ι Γ (.Call (.Name x p) (e :: es) [] pos) r Γ1 := by
  refine ⟨ha.1, fun C σ H g => ?_⟩
  obtain ⟨f, fd, ps, Fo, hm, hk, hb, hpn⟩ := G.ex
  refine WE.of (pe_call Fo hr (S.gl hg) hm hk hb .nil passL (pa_wa X _) (gl_of hg).2.1 he hpl) ?_
  refine (ha.2 C σ H g).mono fun vs H1 ⟨g1, s1, r1⟩ => ?_
  show spD X.K ι n F (vs ++ []) H1 _ _
  rw [List.append_nil]
  refine ⟨by rw [r1.length]; exact hl, _, .ret r fs, hF, args_im r1, fun v H' hp hv => ?_⟩
  have s2 : Same H1 H' := fun b o e => hp.keep b o e (.inr fun i h => (no_mu h).elim)
  exact ⟨g1.same s2, s1.trans ha.1 s2.frE, hv.olderE s1⟩
end

/-! ### statements -/
structure Ph where
  nx : List Slot → Prop
  rt : R → List Slot → Prop
  bk : List Slot → Prop := fun _ => False
  ct : List Slot → Prop := fun _ => False
  ex : Addr → List (Str × D) → List Slot → Prop := fun _ _ _ => False
def lift (K : PySem.W.Frag) (ι : Addr → Nat → Prop) (C : Cf) (Hs : Hp) (Φ : Ph) : Ends where
  nx := fun σ H => ∃ Γ', EnvOk K ι C H σ Γ' ∧ Kp ι Hs H ∧ Φ.nx Γ'
  rt := fun v H => ∃ r Γ' σ', EnvOk K ι C H σ' Γ' ∧ ROk K ι C.H0 H r v ∧ Φ.rt r Γ'
  bk := fun σ H => ∃ Γ', EnvOk K ι C H σ Γ' ∧ Kp ι Hs H ∧ Φ.bk Γ'
  ct := fun σ H => ∃ Γ', EnvOk K ι C H σ Γ' ∧ Kp ι Hs H ∧ Φ.ct Γ'
/-- what is wanted of an exception -/
def liftX (K : PySem.W.Frag) (ι : Addr → Nat → Prop) (C : Cf) (ex : Addr → List (Str × D) → List Slot → Prop) : WX := fun cls d σ H => ∃ Cc fl Γ', cls = .ref Cc ∧ EnvOk K ι C H σ Γ' ∧ XdOk K ι H fl d ∧ ex Cc fl Γ'
def Tk (X : Cx) (ι : Addr → Nat → Prop) (C : Cf) (ex : Addr → List (Str × D) → List Slot → Prop) : Prop := Takes X (liftX X.K ι C ex)
def St (X : Cx) (ι : Addr → Nat → Prop) (Γ : List Slot) (st : Stmt) (Φ : Ph) : Prop :=
  ∀ C σ H, Tk X ι C Φ.ex → EnvOk X.K ι C H σ Γ → WS X st (lift X.K ι C H Φ) σ H
def Sts (X : Cx) (ι : Addr → Nat → Prop) (Γ : List Slot) (st : List Stmt) (Φ : Ph) : Prop :=
  ∀ C σ H, Tk X ι C Φ.ex → EnvOk X.K ι C H σ Γ → WSs X st (lift X.K ι C H Φ) σ H
theorem tk_no {X : Cx} {ι : Addr → Nat → Prop} {C : Cf} : Tk X ι C (fun _ _ _ => False) := takes0.imp fun _ _ _ _ ⟨_, _, _, _, _, _, z⟩ => z
section
variable {X : Cx} {ι : Addr → Nat → Prop} {Γ Γ1 Γ2 Γ' : List Slot} {sc : Scope} {N : List Str} {e a b c : Expr} {es : List Expr} {pos pos' : Pos} {r : R} {st : Stmt} {sts body els : List Stmt} {Φ : Ph} {d : D} {m : M}
theorem sts_nil (h : Φ.nx Γ) : Sts X ι Γ [] Φ := fun C σ H tk g => WSs.of pss_nil ⟨Γ, g, Kp.refl, h⟩
theorem sts_cons (Ψ : List Slot → Prop) (h : St X ι Γ st { Φ with nx := Ψ }) (h' : ∀ Γ', Ψ Γ' → Sts X ι Γ' sts Φ) : Sts X ι Γ (st :: sts) Φ := by
  intro C σ H tk g
  refine WSs.of (pss_cons (ps_ws X st) (pss_ws X sts)) ?_
  intro pins s I
  refine thn (h C σ H tk g pins s I) fun f s1 q => ?_
  refine SP.mono q (fun σ' H' ⟨Γ', g', k, z⟩ => ?_) (fun _ _ z => z) (fun _ _ z => z) fun _ _ z => z
  intro pins s I
  refine thn (h' Γ' z C σ' H' tk g' pins s I) fun f s1 q => ?_
  exact SP.mono q (fun _ _ ⟨Γ2, g2, k2, z2⟩ => ⟨Γ2, g2, k.trans k2, z2⟩) (fun _ _ z => z) (fun _ _ ⟨Γ2, g2, k2, z2⟩ => ⟨Γ2, g2, k.trans k2, z2⟩) (fun _ _ ⟨Γ2, g2, k2, z2⟩ => ⟨Γ2, g2, k.trans k2, z2⟩)
theorem sts_one (h : St X ι Γ st Φ) : Sts X ι Γ [st] Φ := fun C σ H tk g => WSs.of (pss_one (ps_ws X st)) (h C σ H tk g)
theorem St.mono {Φ' : Ph} (h : St X ι Γ st Φ) (n : ∀ Γ, Φ.nx Γ → Φ'.nx Γ) (r : ∀ v Γ, Φ.rt v Γ → Φ'.rt v Γ) (b : ∀ Γ, Φ.bk Γ → Φ'.bk Γ) (c : ∀ Γ, Φ.ct Γ → Φ'.ct Γ) (x : Φ.ex = Φ'.ex) : St X ι Γ st Φ' := fun C σ H tk g pins s I =>
  thn (h C σ H (by rw [x]; exact tk) g pins s I) fun f s1 q => SP.mono q (fun _ _ ⟨Γ', g', k, z⟩ => ⟨Γ', g', k, n _ z⟩) (fun _ _ ⟨r', Γ', σ', g', q, z⟩ => ⟨r', Γ', σ', g', q, r _ _ z⟩) (fun _ _ ⟨Γ', g', k, z⟩ => ⟨Γ', g', k, b _ z⟩) (fun _ _ ⟨Γ', g', k, z⟩ => ⟨Γ', g', k, c _ z⟩)
theorem Sts.mono {Φ' : Ph} (h : Sts X ι Γ sts Φ) (n : ∀ Γ, Φ.nx Γ → Φ'.nx Γ) (r : ∀ v Γ, Φ.rt v Γ → Φ'.rt v Γ) (b : ∀ Γ, Φ.bk Γ → Φ'.bk Γ) (c : ∀ Γ, Φ.ct Γ → Φ'.ct Γ) (x : Φ.ex = Φ'.ex) : Sts X ι Γ sts Φ' := fun C σ H tk g pins s I =>
  thn (h C σ H (by rw [x]; exact tk) g pins s I) fun f s1 q => SP.mono q (fun _ _ ⟨Γ', g', k, z⟩ => ⟨Γ', g', k, n _ z⟩) (fun _ _ ⟨r', Γ', σ', g', q, z⟩ => ⟨r', Γ', σ', g', q, r _ _ z⟩) (fun _ _ ⟨Γ', g', k, z⟩ => ⟨Γ', g', k, b _ z⟩) (fun _ _ ⟨Γ', g', k, z⟩ => ⟨Γ', g', k, c _ z⟩)

theorem st_pass (h : Φ.nx Γ) : St X ι Γ (.Pass pos) Φ := fun C σ H tk g => WS.of ps_pass ⟨Γ, g, Kp.refl, h⟩
theorem st_break (h : Φ.bk Γ) : St X ι Γ (.Break pos) Φ := fun C σ H tk g => WS.of ps_break ⟨Γ, g, Kp.refl, h⟩
theorem st_continue (h : Φ.ct Γ) : St X ι Γ (.Continue pos) Φ := fun C σ H tk g => WS.of ps_continue ⟨Γ, g, Kp.refl, h⟩
theorem st_doc {x : Str} {j : Nat} (h : Φ.nx Γ) : St X ι Γ (.Expr (.Constant (.str x) j pos) pos') Φ := fun C σ H tk g => WS.of ps_doc ⟨Γ, g, Kp.refl, h⟩
theorem st_ret (h : Ev X ι Γ e r Γ') (h' : Φ.rt r Γ') : St X ι Γ (.Return (some e) pos) Φ := by
  intro C σ H tk g
  refine WS.of (ps_ret (pe_we X e)) ?_
  refine (h.2 C σ H g).mono fun v H1 ⟨g1, s1, r1⟩ => ⟨r, Γ', σ, g1, ?_, h'⟩
  cases r with
  | im d => exact r1
  | ow m => obtain ⟨p, e, n, q⟩ := r1; exact ⟨p, e, g.free n, q⟩
  | vo m => exact r1
/-- return x, x a slot's own thing -/
theorem st_ret_ow (S : Sx X sc N) (i : Nat) {x : Str} (hN : N[i]? = some x) (hv : visB sc x = true) (hs : Γ[i]? = some (.ow m)) (h' : Φ.rt (.ow m) Γ) : St X ι Γ (.Return (some (.Name x pos)) pos') Φ := by
  intro C σ H tk g
  obtain ⟨v1, v2, v3⟩ := vis_of hv
  refine WS.of (ps_ret (pe_var (i := i) (by rw [S.hN]; exact hN) (by rw [S.hsc]; exact v1) v2 v3)) ?_
  obtain ⟨p, e, q⟩ := g.ok i _ hs
  exact ⟨_, e, .ow m, Γ, σ, g, ⟨p, rfl, g.new i m p hs e, q⟩, h'⟩
theorem st_retN (h' : Φ.rt (.im .non) Γ) : St X ι Γ (.Return none pos) Φ := fun C σ H tk g => WS.of ps_retN ⟨.im .non, Γ, σ, g, .non, h'⟩
theorem st_if {p : Bool} (h : Evt X ι Γ c p Γ1) (h1 : p = true → Sts X ι Γ1 body Φ) (h2 : p = false → Sts X ι Γ1 els Φ) : St X ι Γ (.If c body els pos) Φ := by
  intro C σ H tk g
  refine WS.of (ps_if (pt_wt X c) (pss_ws X body) (pss_ws X els)) ?_
  refine (h.2 C σ H g).mono fun q H1 ⟨g1, s1', e⟩ => ?_
  subst e
  have back : ∀ {sts : List Stmt}, WSs X sts (lift X.K ι C H1 Φ) σ H1 → WSs X sts (lift X.K ι C H Φ) σ H1 := fun {sts} w pins s I =>
    thn (w pins s I) fun f s1 q => SP.mono q (fun _ _ ⟨Γ2, g2, k2, z2⟩ => ⟨Γ2, g2, s1'.kp.trans k2, z2⟩) (fun _ _ z => z) (fun _ _ ⟨Γ2, g2, k2, z2⟩ => ⟨Γ2, g2, s1'.kp.trans k2, z2⟩) (fun _ _ ⟨Γ2, g2, k2, z2⟩ => ⟨Γ2, g2, s1'.kp.trans k2, z2⟩)
  cases q with
  | true => exact iteT (back (h1 rfl C σ H1 tk g1))
  | false => exact iteF (back (h2 rfl C σ H1 tk g1))
theorem st_expr (h : Ev X ι Γ e r Γ') (h' : Φ.nx Γ') (hs : swapsWith e none pos.line X.env = pure false := by rfl) : St X ι Γ (.Expr e pos) Φ := by
  intro C σ H tk g
  refine WS.of (ps_expr (pe_we X e) hs) ?_
  exact (h.2 C σ H g).mono fun v H1 ⟨g1, s1, r1⟩ => ⟨Γ', g1, s1.kp, h'⟩
theorem get_set {α : Type} {l : List α} {i j : Nat} {x : α} (h : i < l.length) : (l.set i x)[j]? = if i = j then some x else l[j]? := by
  by_cases e : i = j
  · subst e; rw [if_pos rfl, List.getElem?_set_self h]
  · rw [if_neg e, List.getElem?_set_ne e]
/-- a slot that was not lent in gets data -/
theorem EnvOk.setIm {K : PySem.W.Frag} {C : Cf} {H : Hp} {σ : L2.St} {i : Nat} {v : V} (g : EnvOk K ι C H σ Γ) (hi : i < Γ.length) (hm : ∀ m, Γ[i]? ≠ some (.mu m)) (r : Rep K ι H d v) : EnvOk K ι C H (σ.set i (some v)) (Γ.set i (.im d)) := by
  have hs : i < σ.length := by rw [g.len]; exact hi
  refine ⟨⟨by rw [List.length_set, List.length_set]; exact g.len, fun j s e => ?_⟩, fun j k p ne hj hk e1 e2 => ?_, fun j m p e1 e2 => ?_, fun j m p e1 e2 => ?_, fun j p e => ?_, g.fr, g.tr⟩
  · rw [get_set hi] at e
    rw [get_set hs]
    by_cases q : i = j
    · rw [if_pos q] at e ⊢; cases e; exact ⟨v, rfl, r⟩
    · rw [if_neg q] at e ⊢; exact g.ok j s e
  · rw [get_set hi] at hj hk
    rw [get_set hs] at e1 e2
    by_cases q : i = j
    · rw [if_pos q] at hj; exact hj
    · by_cases q' : i = k
      · rw [if_pos q'] at hk; exact hk
      · rw [if_neg q] at hj e1; rw [if_neg q'] at hk e2; exact g.dis j k p ne hj hk e1 e2
  · rw [get_set hi] at e1
    rw [get_set hs] at e2
    by_cases q : i = j
    · rw [if_pos q] at e1; cases e1
    · rw [if_neg q] at e1 e2; exact g.new j m p e1 e2
  · rw [get_set hi] at e1
    rw [get_set hs] at e2
    by_cases q : i = j
    · rw [if_pos q] at e1; cases e1
    · rw [if_neg q] at e1 e2; exact g.mus j m p e1 e2
  · obtain ⟨m, hm'⟩ := g.muP j p e
    refine ⟨m, ?_⟩
    rw [get_set hi]
    by_cases q : i = j
    · subst q; exact absurd hm' (hm m)
    · rw [if_neg q]; exact hm'
/-- .. gets an own new thing -/
theorem EnvOk.setOw {K : PySem.W.Frag} {C : Cf} {H : Hp} {σ : L2.St} {i : Nat} {p : Addr} (g : EnvOk K ι C H σ Γ) (hi : i < Γ.length) (hm : ∀ m, Γ[i]? ≠ some (.mu m)) (r : MRep K ι H p m) (n0 : C.H0 p = none) (no : ¬ OwnedBy σ Γ p) : EnvOk K ι C H (σ.set i (some (.ref p))) (Γ.set i (.ow m)) := by
  have hs : i < σ.length := by rw [g.len]; exact hi
  refine ⟨⟨by rw [List.length_set, List.length_set]; exact g.len, fun j s e => ?_⟩, fun j k q ne hj hk e1 e2 => ?_, fun j m q e1 e2 => ?_, fun j m q e1 e2 => ?_, fun j q e => ?_, g.fr, g.tr⟩
  · rw [get_set hi] at e
    rw [get_set hs]
    by_cases q : i = j
    · rw [if_pos q] at e ⊢; cases e; exact ⟨p, rfl, r⟩
    · rw [if_neg q] at e ⊢; exact g.ok j s e
  · rw [get_set hi] at hj hk
    rw [get_set hs] at e1 e2
    by_cases q1 : i = j
    · rw [if_pos q1] at e1; cases e1
      have q2 : i ≠ k := fun z => ne (q1.symm.trans z)
      rw [if_neg q2] at hk e2
      exact no ⟨k, hk, e2⟩
    · by_cases q2 : i = k
      · rw [if_pos q2] at e2; cases e2
        rw [if_neg q1] at hj e1
        exact no ⟨j, hj, e1⟩
      · rw [if_neg q1] at hj e1; rw [if_neg q2] at hk e2; exact g.dis j k q ne hj hk e1 e2
  · rw [get_set hi] at e1
    rw [get_set hs] at e2
    by_cases q1 : i = j
    · rw [if_pos q1] at e1 e2; cases e2; exact n0
    · rw [if_neg q1] at e1 e2; exact g.new j m q e1 e2
  · rw [get_set hi] at e1
    rw [get_set hs] at e2
    by_cases q1 : i = j
    · rw [if_pos q1] at e1; cases e1
    · rw [if_neg q1] at e1 e2; exact g.mus j m q e1 e2
  · obtain ⟨m', hm'⟩ := g.muP j q e
    refine ⟨m', ?_⟩
    rw [get_set hi]
    by_cases q1 : i = j
    · subst q1; exact absurd hm' (hm m')
    · rw [if_neg q1]; exact hm'
/-- a slot that may be stored to -/
def stoB (Γ : List Slot) (i : Nat) : Bool := match Γ[i]? with | some (.mu _) => false | none => false | _ => true
theorem stoB.lt {i : Nat} (h : stoB Γ i = true) : i < Γ.length ∧ ∀ m, Γ[i]? ≠ some (.mu m) := by
  unfold stoB at h
  cases q : Γ[i]? with
  | none => rw [q] at h; cases h
  | some s =>
    refine ⟨(List.getElem?_eq_some_iff.mp q).1, fun m z => ?_⟩
    cases z
    rw [q] at h; cases h
/-- x = e -/
theorem st_set (S : Sd X sc N) (i : Nat) {x : Str} (hN : N[i]? = some x) (hv : locB sc x = true) (h : Ev X ι Γ e (.im d) Γ1) (h' : Φ.nx (Γ1.set i (.im d))) (hs : stoB Γ1 i = true := by rfl) (hw : swapsWith e (some (.Name x pos')) pos.line X.env = pure false := by rfl) : St X ι Γ (.Assign [.Name x pos'] e pos) Φ := by
  intro C σ H tk g
  refine WS.of (ps_set (i := i) (by rw [S.hN]; exact S.nd) (by rw [S.hN]; exact hN) (by rw [S.hsc]; exact loc_of hv) (pe_we X e) hw (.inl (S.fn x))) ?_
  refine (h.2 C σ H g).mono fun v H1 ⟨g1, s1, r1⟩ => ?_
  obtain ⟨h1, h2⟩ := stoB.lt hs
  exact ⟨_, g1.setIm h1 h2 r1, s1.kp, h'⟩
/-- .. an own new thing -/
theorem st_set_ow (S : Sd X sc N) (i : Nat) {x : Str} (hN : N[i]? = some x) (hv : locB sc x = true) (h : Ev X ι Γ e (.ow m) Γ1) (h' : Φ.nx (Γ1.set i (.ow m))) (hs : stoB Γ1 i = true := by rfl) (hw : swapsWith e (some (.Name x pos')) pos.line X.env = pure false := by rfl) : St X ι Γ (.Assign [.Name x pos'] e pos) Φ := by
  intro C σ H tk g
  refine WS.of (ps_set (i := i) (by rw [S.hN]; exact S.nd) (by rw [S.hN]; exact hN) (by rw [S.hsc]; exact loc_of hv) (pe_we X e) hw (.inl (S.fn x))) ?_
  refine (h.2 C σ H g).mono fun v H1 ⟨g1, s1, p, ev, np, r1⟩ => ?_
  subst ev
  obtain ⟨h1, h2⟩ := stoB.lt hs
  exact ⟨_, g1.setOw h1 h2 r1 (g.free np) (fun z => g.toEnvR.notOwned np (h.1.owned z)), s1.kp, h'⟩
/-- x op= e, whole numbers -/
theorem st_aug (S : Sd X sc N) (i : Nat) {x : Str} {op : Operator} {f : Int → Int → Int} {k l : Int} (ho : PIp X op (ipI f)) (hN : N[i]? = some x) (hv : locB sc x = true) (hg : Γ[i]? = some (.im (.int k))) (h : Ev X ι Γ e (.im (.int l)) Γ1)
    (h' : Φ.nx (Γ1.set i (.im (.int (f k l))))) (hs : stoB Γ1 i = true := by rfl) : St X ι Γ (.AugAssign (.Name x pos') op e pos) Φ := by
  intro C σ H tk g
  refine WS.of (ps_aug (i := i) (by rw [S.hN]; exact S.nd) (by rw [S.hN]; exact hN) (by rw [S.hsc]; exact loc_of hv) (pe_we X e) ho (.inl (S.fn x))) ?_
  obtain ⟨v, e1, r0⟩ := g.ok i _ hg
  cases r0
  refine ⟨_, e1, ?_⟩
  refine (h.2 C σ H g).mono fun v H1 ⟨g1, s1, r1⟩ => ?_
  cases r1
  obtain ⟨h1, h2⟩ := stoB.lt hs
  exact ⟨k, l, rfl, rfl, _, g1.setIm h1 h2 (.int _), s1.kp, h'⟩
/-- the wish at a slot's own thing is changed: all else stands -/
theorem EnvOk.setM {K : PySem.W.Frag} {C : Cf} {H H' : Hp} {σ : L2.St} {i : Nat} {p : Addr} {m m' : M} (g : EnvOk K ι C H σ Γ) (hs : Γ[i]? = some (.ow m) ∨ Γ[i]? = some (.mu m)) (hp : σ[i]? = some (some (.ref p)))
    (k : ∀ (b : Addr) (o : HO), b ≠ p → H b = some o → H' b = some o) (ni : ∀ o, H p = some o → ¬ Im ι o) (r : MRep K ι H' p m') (Γ' : List Slot) (hΓ : (Γ[i]? = some (.ow m) ∧ Γ' = Γ.set i (.ow m')) ∨ (Γ[i]? = some (.mu m) ∧ Γ' = Γ.set i (.mu m'))) :
    EnvOk K ι C H' σ Γ' ∧ FrE ι σ Γ H H' := by
  have hi : i < Γ.length := by rcases hs with h | h <;> exact (List.getElem?_eq_some_iff.mp h).1
  have hk : Kp ι H H' := fun b o e im => k b o (fun z => by subst z; exact ni o e im) e
  have hold : ∃ o, H p = some o := g.toEnvR.owned ⟨i, isOwn_of hs, hp⟩
  have tr' : ∀ (b : Addr) (o : HO), H b = some o → ∃ o', H' b = some o' := fun b o e => by
    by_cases z : b = p
    · subst z; exact r.there
    · exact ⟨o, k b o z e⟩
  have oth : ∀ (j : Nat) (q : Addr), j ≠ i → isOwn Γ[j]? → σ[j]? = some (some (.ref q)) → q ≠ p := fun j q ne ho e z => g.dis j i q ne ho (isOwn_of hs) e (by rw [z]; exact hp)
  have own' : ∀ j : Nat, isOwn Γ'[j]? → isOwn Γ[j]? := fun j h => by
    by_cases q : i = j
    · subst q; exact isOwn_of hs
    · rcases hΓ with ⟨_, z⟩ | ⟨_, z⟩ <;> (rw [z, get_set hi, if_neg q] at h; exact h)
  have fr1 : FrE ι σ Γ H H' := ⟨fun b o e im => k b o (fun z => by
    subst z
    rcases im with im | im
    · exact ni o e im
    · exact im ⟨i, isOwn_of hs, hp⟩) e, tr'⟩
  refine ⟨⟨⟨by rcases hΓ with ⟨_, z⟩ | ⟨_, z⟩ <;> rw [z, List.length_set] <;> exact g.len, fun j s e => ?_⟩, fun j l q ne hj hl e1 e2 => g.dis j l q ne (own' j hj) (own' l hl) e1 e2, fun j n q e1 e2 => ?_, fun j n q e1 e2 => ?_, fun j q e => ?_, fun b o e im => ?_, fun b o e => ?_⟩, fr1⟩
  · by_cases q : i = j
    · subst q
      rcases hΓ with ⟨_, z⟩ | ⟨_, z⟩ <;> (rw [z, get_set hi, if_pos rfl] at e; cases e; exact ⟨p, hp, r⟩)
    · have e' : Γ[j]? = some s := by rcases hΓ with ⟨_, z⟩ | ⟨_, z⟩ <;> (rw [z, get_set hi, if_neg q] at e; exact e)
      have w := g.ok j s e'
      cases s with
      | un => trivial
      | im d => obtain ⟨v, x, y⟩ := w; exact ⟨v, x, y.mono hk⟩
      | ow n => obtain ⟨v, x, y⟩ := w; exact ⟨v, x, y.same hk fun o ho => k v o (oth j v (Ne.symm q) (by rw [e']; trivial) x) ho⟩
      | mu n => obtain ⟨v, x, y⟩ := w; exact ⟨v, x, y.same hk fun o ho => k v o (oth j v (Ne.symm q) (by rw [e']; trivial) x) ho⟩
  · by_cases w : i = j
    · subst w
      rcases hΓ with ⟨y, z⟩ | ⟨_, z⟩
      · exact g.new i m q y e2
      · rw [z, get_set hi, if_pos rfl] at e1; cases e1
    · have e' : Γ[j]? = some (.ow n) := by rcases hΓ with ⟨_, z⟩ | ⟨_, z⟩ <;> (rw [z, get_set hi, if_neg w] at e1; exact e1)
      exact g.new j n q e' e2
  · by_cases w : i = j
    · subst w
      rcases hΓ with ⟨_, z⟩ | ⟨y, z⟩
      · rw [z, get_set hi, if_pos rfl] at e1; cases e1
      · exact g.mus i m q y e2
    · have e' : Γ[j]? = some (.mu n) := by rcases hΓ with ⟨_, z⟩ | ⟨_, z⟩ <;> (rw [z, get_set hi, if_neg w] at e1; exact e1)
      exact g.mus j n q e' e2
  · obtain ⟨n, hn⟩ := g.muP j q e
    by_cases w : i = j
    · subst w
      rcases hΓ with ⟨y, z⟩ | ⟨_, z⟩
      · rw [hn] at y; cases y
      · exact ⟨m', by rw [z, get_set hi, if_pos rfl]⟩
    · exact ⟨n, by rcases hΓ with ⟨_, z⟩ | ⟨_, z⟩ <;> (rw [z, get_set hi, if_neg w]; exact hn)⟩
  · refine k b o (fun z => ?_) (g.fr b o e im)
    subst z
    have w := g.fr b o e im
    rcases im with im | im
    · exact ni o w im
    · rcases hΓ with ⟨y, _⟩ | ⟨y, _⟩
      · rw [g.new i m b y hp] at e; cases e
      · exact im i (g.mus i m b y hp)
  · obtain ⟨o1, e1⟩ := g.tr b o e
    exact tr' b o1 e1
end

/-! ### a def by its body -/
def Fin (fs Γ' : List Slot) : Prop := ∀ (i : Nat) (m : M), fs[i]? = some (.mu m) → Γ'[i]? = some (.mu m)
def PhO : Out → Ph
  | .ret r fs => { nx := fun Γ' => r = .im .non ∧ Fin fs Γ', rt := fun r' Γ' => r' = r ∧ Fin fs Γ' }
  | .exc C fl fs => { nx := fun _ => False, rt := fun _ _ => False, ex := fun C' fl' Γ' => C' = C ∧ fl' = fl ∧ Fin fs Γ' }
def Γ0 (ss : List Slot) (n : Nat) : List Slot := ss ++ List.replicate (n - ss.length) .un
section
variable {P : Program} {w : World} {K : PySem.W.Frag} {mg : Str → Option Value} {base : Heap} {ι : Addr → Nat → Prop}
theorem start_get {N : List Str} {vs : List V} {i : Nat} (h : i < vs.length) : (L2.start N vs)[i]? = vs[i]?.map some := by
  unfold L2.start
  rw [List.getElem?_append_left (by simpa using h), List.getElem?_map]
theorem Γ0_get {ss : List Slot} {n i : Nat} (h : i < ss.length) : (Γ0 ss n)[i]? = ss[i]? := by
  unfold Γ0
  rw [List.getElem?_append_left h]
theorem Γ0_un {ss : List Slot} {n i : Nat} {s : Slot} (h : ss.length ≤ i) (e : (Γ0 ss n)[i]? = some s) : s = .un := by
  unfold Γ0 at e
  rw [List.getElem?_append_right h, List.getElem?_replicate] at e
  split at e
  · cases e; rfl
  · cases e
/-- the addresses of what is lent -/
def lentP (vs : List V) (ss : List Slot) (i : Nat) : Option Addr := match ss[i]?, vs[i]? with
  | some (.mu _), some (.ref p) => some p
  | _, _ => none
theorem env_start {N : List Str} {H : Hp} {vs : List V} {ss : List Slot} (h : ArgsOk K ι H vs ss) : EnvOk K ι ⟨H, lentP vs ss⟩ H (L2.start N vs) (Γ0 ss N.length) := by
  have hl := h.len
  have look : ∀ (i : Nat) (s : Slot), (Γ0 ss N.length)[i]? = some s → s = .un ∨ (ss[i]? = some s ∧ i < ss.length) := fun i s e => by
    by_cases q : i < ss.length
    · rw [Γ0_get q] at e; exact .inr ⟨e, q⟩
    · exact .inl (Γ0_un (by omega) e)
  refine ⟨⟨?_, fun i s e => ?_⟩, fun i j p ne hi hj e1 e2 => ?_, fun i m p e1 e2 => ?_, fun i m p e1 e2 => ?_, fun i p e => ?_, fun b o e _ => e, fun b o e => ⟨o, e⟩⟩
  · unfold L2.start Γ0
    rw [List.length_append, List.length_map, List.length_replicate, List.length_append, List.length_replicate, hl]
  · rcases look i s e with q | ⟨q, lt⟩
    · subst q; trivial
    · rw [start_get (by omega)]
      cases s with
      | un => trivial
      | im d => obtain ⟨v, x, y⟩ := h.im i d q; exact ⟨v, by rw [x]; rfl, y⟩
      | ow m => exact absurd q (h.no i m)
      | mu m => obtain ⟨v, x, y⟩ := h.mu i m q; exact ⟨v, by rw [x]; rfl, y⟩
  · have mk : ∀ (i : Nat), isOwn (Γ0 ss N.length)[i]? → (L2.start N vs)[i]? = some (some (.ref p)) → muAt ss i ∧ vs[i]? = some (.ref p) := fun i hi e => by
      cases q : (Γ0 ss N.length)[i]? with
      | none => rw [q] at hi; exact hi.elim
      | some s =>
        rw [q] at hi
        rcases look i s q with z | ⟨z, lt⟩
        · subst z; exact hi.elim
        · rw [start_get (by omega)] at e
          have e' : vs[i]? = some (.ref p) := by
            cases w : vs[i]? with
            | none => rw [w] at e; cases e
            | some v => rw [w] at e; cases e; rfl
          cases s with
          | un => exact hi.elim
          | im d => exact hi.elim
          | ow m => exact absurd z (h.no i m)
          | mu m => exact ⟨⟨m, z⟩, e'⟩
    obtain ⟨a1, a2⟩ := mk i hi e1
    obtain ⟨b1, b2⟩ := mk j hj e2
    exact h.dis i j p ne a1 b1 a2 b2
  · rcases look i _ e1 with z | ⟨z, lt⟩
    · cases z
    · exact absurd z (h.no i m)
  · rcases look i _ e1 with z | ⟨z, lt⟩
    · cases z
    · rw [start_get (by omega)] at e2
      show lentP vs ss i = some p
      unfold lentP
      cases w : vs[i]? with
      | none => rw [w] at e2; cases e2
      | some v => rw [w] at e2; cases e2; rw [z]
  · have e' : lentP vs ss i = some p := e
    unfold lentP at e'
    split at e'
    · rename_i m q z1 z2
      have lt : i < ss.length := (List.getElem?_eq_some_iff.mp z1).1
      exact ⟨m, by rw [Γ0_get lt]; exact z1⟩
    · cases e'
/-- a def of the text as it stands behind the top, with any defaults -/
structure FunA (K : PySem.W.Frag) (x qual : Str) (st : Stmt) (f : Addr) (fd : FuncData) : Prop where
  ex : ∃ (oc : Value) (od : Option Addr) (dV kV doc pm : Value) (an : Option Addr) (cdv ct : Value) (osl : Array (Option Value)),
    fd = PySem.W.fnOf x qual (defArgs st) (defBody st) (defScope st) dV kV doc pm an cdv ct ∧ K.lookup f = some ⟨oc, od, .func fd, osl⟩ ∧ PySem.W.codeIn K cdv qual = true
theorem FunA.okX {x qual : Str} {st : Stmt} {f : Addr} {fd : FuncData} {N ps : List Str} {k : Nat} {sp : Sp} (F : FunA K x qual st f fd) (S : FnScope N ps (defScope st)) (len : ∀ vs H Q E, sp vs H Q E → vs.length = ps.length)
    (hbody : ∀ (cdv : Value) (A : Around) (outer : List Env) (s : Shared) (H : Hp) (vs : List V) (Q : VK) (E : XK), Room k (A.deeper (PyProof.Rows.envOfC qual (defScope st) s.heap.objs.size f cdv)) → sp vs H Q E →
      ∃ t, PSs (cxOf (L2.CX P w) P w K mg base N qual (defScope st) f cdv A outer s H E) (defBody st) t ∧ t { nx := fun _ H' => Q .non H', rt := Q } (L2.start N vs) H) : FnOk P w K mg base (L2.CX P w) (k + 1) f fd ps sp := by
  obtain ⟨_, _, _, _, _, _, _, _, _, _, rfl, lk, hcd⟩ := F.ex
  exact fn_of lk hcd S len fun A outer s H vs Q E hr hsp => hbody _ A outer s H vs Q E hr hsp
/-- THE RULE of a def -/
theorem fnd_ok {x qual : Str} {st : Stmt} {f : Addr} {fd : FuncData} {N ps : List Str} {k : Nat} {F : FR} (Fu : FunA K x qual st f fd) (S : FnScope N ps (defScope st))
    (hb : ∀ (cdv : Value) (A : Around) (outer : List Env) (s : Shared) (H : Hp) (E : XK), Room k (A.deeper (PyProof.Rows.envOfC qual (defScope st) s.heap.objs.size f cdv)) →
      Sd (cxOf (L2.CX P w) P w K mg base N qual (defScope st) f cdv A outer s H E) (defScope st) N → ∀ ss o, F ss o → Sts (cxOf (L2.CX P w) P w K mg base N qual (defScope st) f cdv A outer s H E) ι (Γ0 ss N.length) (defBody st) (PhO o)) :
    FnOk P w K mg base (L2.CX P w) (k + 1) f fd ps (spD K ι ps.length F) := by
  refine Fu.okX S (fun vs H Q E h => h.1) fun cdv A outer s H vs Q E hr h => ?_
  obtain ⟨hn, ss, o, hF, ha, q⟩ := h
  have Sd0 : Sd (cxOf (L2.CX P w) P w K mg base N qual (defScope st) f cdv A outer s H E) (defScope st) N := ⟨⟨rfl, rfl, S.nd, rfl⟩, fun _ => rfl⟩
  have hl := ha.len
  have fin : ∀ {σ' : L2.St} {H' : Hp} {Γ' fs : List Slot}, EnvOk K ι ⟨H, lentP vs ss⟩ H' σ' Γ' → Fin fs Γ' → Post K ι H vs ss fs H' := fun {σ' H' Γ' fs} g z => by
    refine ⟨fun b o e i => g.fr b o e (i.imp id fun n j hj => ?_), fun b o e => g.tr b o e, fun i m e => ?_⟩
    · have hj' : lentP vs ss j = some b := hj
      unfold lentP at hj'
      split at hj'
      · rename_i m p z1 z2
        cases hj'
        exact n j ⟨m, z1⟩ z2
      · cases hj'
    · have e2 := z i m e
      obtain ⟨p, x1, x2⟩ := g.ok i _ e2
      have x3 := g.mus i m p e2 x1
      have x3' : lentP vs ss i = some p := x3
      unfold lentP at x3'
      split at x3'
      · rename_i m' p' z1 z2
        cases x3'
        exact ⟨p, z2, x2⟩
      · cases x3'
  refine ⟨WSs _ _, pss_ws _ _, ?_⟩
  have body := hb cdv A outer s H E hr Sd0 ss o hF ⟨H, lentP vs ss⟩ (L2.start N vs) H
  cases o with
  | ret r fs =>
    intro pins s1 I
    refine thn (body tk_no (env_start ha) pins s1 I) fun fl s2 z => ?_
    refine SP.mono z (fun σ' H' ⟨Γ', g, _, e, zz⟩ => ?_) (fun v H' ⟨r', Γ', σ', g, ro, e, zz⟩ => ?_) (fun _ _ ⟨_, _, _, z⟩ => z.elim) (fun _ _ ⟨_, _, _, z⟩ => z.elim)
    · subst e
      exact q .non H' (fin g zz) .non
    · subst e
      exact q v H' (fin g zz) ro
  | exc Cc fl fs =>
    have tk : Tk (cxOf (L2.CX P w) P w K mg base N qual (defScope st) f cdv A outer s H E) ι ⟨H, lentP vs ss⟩ (PhO (.exc Cc fl fs)).ex := by
      have t0 : Takes (cxOf (L2.CX P w) P w K mg base N qual (defScope st) f cdv A outer s H E) (fun cls d _ H => E cls d H) := takes_of rfl rfl rfl rfl
      refine t0.imp fun cls d σ' H' x => ?_
      obtain ⟨Cc', fl', Γ', z1, z2, z3, z4, z5, z6⟩ := x
      subst z1 z4 z5
      exact q _ _ (fin z2 z6) z3
    intro pins s1 I
    refine thn (body tk (env_start ha) pins s1 I) fun f2 s2 z => ?_
    exact SP.mono z (fun σ' H' ⟨Γ', g, _, z⟩ => z.elim) (fun v H' ⟨r', Γ', σ', g, ro, z⟩ => z.elim) (fun _ _ ⟨_, _, _, z⟩ => z.elim) (fun _ _ ⟨_, _, _, z⟩ => z.elim)
end
end DL
/-! DL, part f: targets, what is walked, for, comprehensions. -/
namespace DL
open PySem PySem.Spec L2

/-! ### what is walked -/
/-- the i-th item is ds[i], some heap may be new -/
def YD (K : PySem.W.Frag) (ι : Addr → Nat → Prop) (ds : List D) : Nat → Hp → V → Hp → Prop := fun i H x H' => Same H H' ∧ ∃ d, ds[i]? = some d ∧ Rep K ι H' d x
def WD (K : PySem.W.Frag) (ι : Addr → Nat → Prop) (ds : List D) (J : It) (G : Hp → Prop) : Prop := (∀ H1 H2, Kp ι H1 H2 → G H1 → G H2) ∧ Walk J ds.length G (YD K ι ds)
/-- pure -/
def Ei (X : Cx) (ι : Addr → Nat → Prop) (Γ : List Slot) (tg it : Expr) (ds : List D) : Prop :=
  ∃ wi, PI X tg it wi ∧ ∀ σ H R, EnvR X.K ι H σ Γ → (∀ J G H', Same H H' → G H' → WD X.K ι ds J G → R J H') → wi σ H R
def Eiv (X : Cx) (ι : Addr → Nat → Prop) (Γ : List Slot) (tg it : Expr) (ds : List D) (Γ1 : List Slot) : Prop :=
  Kd Γ Γ1 ∧ ∃ wi, PI X tg it wi ∧ ∀ C σ H R, EnvOk X.K ι C H σ Γ → (∀ J G H', EnvOk X.K ι C H' σ Γ1 → FrE ι σ Γ H H' → G H' → WD X.K ι ds J G → R J H') → wi σ H R
section
variable {X : Cx} {ι : Addr → Nat → Prop} {Γ Γ1 Γ2 Γ' : List Slot} {sc : Scope} {N : List Str} {tg it e a b : Expr} {es : List Expr} {pos p : Pos} {ds : List D} {K : PySem.W.Frag} {H : Hp}
theorem eiv_p (h : Ei X ι Γ tg it ds) : Eiv X ι Γ tg it ds Γ := by
  obtain ⟨wi, hp, h⟩ := h
  exact ⟨Kd.refl, wi, hp, fun C σ H R g q => h σ H R g.toEnvR fun J G H' s h1 h2 => q J G H' (g.same s) s.frE h1 h2⟩
theorem wd_list {a : Addr} {vs : List V} (h : FzL K H a vs) (r : Reps K ι H ds vs) : ∃ G : Hp → Prop, G H ∧ WD K ι ds (Itl K a) G := by
  refine ⟨fun H => FzL K H a vs ∧ Reps K ι H ds vs, ⟨h, r⟩, fun H1 H2 k ⟨x, y⟩ => ⟨k.fzL x, y.mono k⟩, ?_⟩
  have w := walk_list (K := K) (a := a) (xs := vs)
  rw [← r.length]
  refine w.mono (fun H h => h.1.sq) fun i H1 x H2 hi hg y => ?_
  obtain ⟨e, y⟩ := y
  subst e
  obtain ⟨d, e1, e2⟩ := hg.2.getV y
  exact ⟨Same.refl _, d, e1, e2⟩
theorem wd_tup {a : Addr} {vs : List V} (h : SqT K H a vs) (r : Reps K ι H ds vs) : ∃ G : Hp → Prop, G H ∧ WD K ι ds (Itt K a) G := by
  refine ⟨fun H => SqT K H a vs ∧ Reps K ι H ds vs, ⟨h, r⟩, fun H1 H2 k ⟨x, y⟩ => ⟨k.sqT x, y.mono k⟩, ?_⟩
  have w := walk_tup (K := K) (a := a) (xs := vs)
  rw [← r.length]
  refine w.mono (fun H h => h.1) fun i H1 x H2 hi hg y => ?_
  obtain ⟨e, y⟩ := y
  subst e
  obtain ⟨d, e1, e2⟩ := hg.2.getV y
  exact ⟨Same.refl _, d, e1, e2⟩
theorem wd_range {lo : Int} {n : Nat} : WD K ι ((List.range n).map fun i => D.int (lo + (i : Nat))) (Itr lo n) fun _ => True := by
  refine ⟨fun _ _ _ _ => trivial, ?_⟩
  have w := walk_range (lo := lo) (n := n)
  rw [List.length_map, List.length_range]
  refine w.mono (fun H h => h) fun i H1 x H2 hi hg y => ?_
  obtain ⟨e, y⟩ := y
  subst e y
  exact ⟨Same.refl _, .int (lo + i), by rw [List.getElem?_map, List.getElem?_range hi]; rfl, .int _⟩
theorem wd_enum {a : Addr} {vs : List V} (h : FzL K H a vs) (r : Reps K ι H ds vs) : ∃ G : Hp → Prop, G H ∧ WD K ι (ds.zipIdx.map fun p => D.tup [.int (p.2 : Nat), p.1]) (Ite K a) G := by
  refine ⟨fun H => FzL K H a vs ∧ Reps K ι H ds vs, ⟨h, r⟩, fun H1 H2 k ⟨x, y⟩ => ⟨k.fzL x, y.mono k⟩, ?_⟩
  have w := walk_enum (K := K) (a := a) (xs := vs)
  rw [List.length_map, List.length_zipIdx, ← r.length]
  refine w.mono (fun H h => h.1.sq) fun i H1 x H2 hi hg y => ?_
  obtain ⟨T, x', y', e1, e2, e3, e4, e5⟩ := y
  subst e1 e3
  cases e4
  obtain ⟨d, e6, e7⟩ := hg.2.getV e5
  refine ⟨same_new e2, .tup [.int (i : Nat), d], ?_, .tup (SqT.of upd_same) (.cons (.int _) (.cons (e7.mono (same_new e2).kp) .nil))⟩
  rw [List.getElem?_map, List.getElem?_zipIdx, e6]
  simp
theorem wd_str {z : Str} : WD K ι (z.cps.toList.map fun c => D.str ⟨#[c]⟩) (Its z) fun _ => True := by
  refine ⟨fun _ _ _ _ => trivial, ?_⟩
  have w := walk_str (z := z)
  rw [List.length_map, Array.length_toList]
  refine w.mono (fun H h => h) fun i H1 x H2 hi hg y => ?_
  obtain ⟨e, c, e1, e2⟩ := y
  subst e e2
  exact ⟨Same.refl _, .str ⟨#[c]⟩, by rw [List.getElem?_map, Array.getElem?_toList, e1]; rfl, .str _⟩
theorem ei_str {z : Str} (h : Ep X ι Γ it (.im (.str z))) : Ei X ι Γ tg it (z.cps.toList.map fun c => D.str ⟨#[c]⟩) := by
  refine ⟨_, pi_str (pe_we X it), fun σ H R g q => ?_⟩
  refine (h σ H g).mono fun v H1 ⟨s1, r1⟩ => ?_
  cases r1
  exact ⟨_, rfl, q _ _ H1 s1 trivial wd_str⟩
theorem eiv_str {z : Str} (h : Ev X ι Γ it (.im (.str z)) Γ1) : Eiv X ι Γ tg it (z.cps.toList.map fun c => D.str ⟨#[c]⟩) Γ1 := by
  refine ⟨h.1, _, pi_str (pe_we X it), fun C σ H R g q => ?_⟩
  refine (h.2 C σ H g).mono fun v H1 ⟨g1, s1, r1⟩ => ?_
  cases r1
  exact ⟨_, rfl, q _ _ H1 g1 s1 trivial wd_str⟩
theorem ei_list (h : Ep X ι Γ it (.im (.lst ds))) : Ei X ι Γ tg it ds := by
  refine ⟨_, pi_list (pe_we X it), fun σ H R g q => ?_⟩
  refine (h σ H g).mono fun v H1 ⟨s1, r1⟩ => ?_
  cases r1 with
  | lst h1 h2 =>
    obtain ⟨G, g1, g2⟩ := wd_list h1 h2
    exact ⟨_, rfl, ⟨_, h1.sq⟩, q _ G H1 s1 g1 g2⟩
theorem ei_tup (h : Ep X ι Γ it (.im (.tup ds))) : Ei X ι Γ tg it ds := by
  refine ⟨_, pi_tup (pe_we X it), fun σ H R g q => ?_⟩
  refine (h σ H g).mono fun v H1 ⟨s1, r1⟩ => ?_
  cases r1 with
  | tup h1 h2 =>
    obtain ⟨G, g1, g2⟩ := wd_tup h1 h2
    exact ⟨_, rfl, ⟨_, h1⟩, q _ G H1 s1 g1 g2⟩
theorem eiv_list (h : Ev X ι Γ it (.im (.lst ds)) Γ1) : Eiv X ι Γ tg it ds Γ1 := by
  refine ⟨h.1, _, pi_list (pe_we X it), fun C σ H R g q => ?_⟩
  refine (h.2 C σ H g).mono fun v H1 ⟨g1, s1, r1⟩ => ?_
  cases r1 with
  | lst h1 h2 =>
    obtain ⟨G, g2, g3⟩ := wd_list h1 h2
    exact ⟨_, rfl, ⟨_, h1.sq⟩, q _ G H1 g1 s1 g2 g3⟩
theorem eiv_tup (h : Ev X ι Γ it (.im (.tup ds)) Γ1) : Eiv X ι Γ tg it ds Γ1 := by
  refine ⟨h.1, _, pi_tup (pe_we X it), fun C σ H R g q => ?_⟩
  refine (h.2 C σ H g).mono fun v H1 ⟨g1, s1, r1⟩ => ?_
  cases r1 with
  | tup h1 h2 =>
    obtain ⟨G, g2, g3⟩ := wd_tup h1 h2
    exact ⟨_, rfl, ⟨_, h1⟩, q _ G H1 g1 s1 g2 g3⟩
theorem ei_range1 {n : Int} (S : Sx X sc N) (hm : X.mg "range" = none) (hg : glB sc "range" = true) (h : Ep X ι Γ a (.im (.int n))) (h1 : -(2 ^ 62) ≤ n) (h2 : n < 2 ^ 62) (hs : starEach [a] X.env = [(false, eval a X.env)] := by rfl) :
    Ei X ι Γ tg (.Call (.Name "range" p) [a] [] pos) ((List.range n.toNat).map fun i => D.int (0 + (i : Nat))) := by
  refine ⟨_, pi_range1 (S.gl hg) hm (pa_wa X [a]) hs, fun σ H R g q => ?_⟩
  have ha : Eds X ι Γ [a] [.int n] := eds_cons h eds_nil hs
  refine (ha σ H g).mono fun vs H1 ⟨s1, r1⟩ => ?_
  cases r1 with
  | cons r1 rr =>
    cases rr; cases r1
    exact ⟨n, rfl, h1, h2, q _ _ H1 s1 trivial wd_range⟩
theorem ei_range2 {m n : Int} (S : Sx X sc N) (hm : X.mg "range" = none) (hg : glB sc "range" = true) (h : Ep X ι Γ a (.im (.int m))) (h' : Ep X ι Γ b (.im (.int n))) (hb : -(2 ^ 62) ≤ m ∧ m < 2 ^ 62 ∧ -(2 ^ 62) ≤ n ∧ n < 2 ^ 62)
    (hs : starEach [a, b] X.env = [(false, eval a X.env), (false, eval b X.env)] := by rfl) (hs2 : starEach [b] X.env = [(false, eval b X.env)] := by rfl) :
    Ei X ι Γ tg (.Call (.Name "range" p) [a, b] [] pos) ((List.range (n - m).toNat).map fun i => D.int (m + (i : Nat))) := by
  refine ⟨_, pi_range2 (S.gl hg) hm (pa_wa X [a, b]) hs hs2, fun σ H R g q => ?_⟩
  have ha : Eds X ι Γ [a, b] [.int m, .int n] := eds_cons h (eds_cons h' eds_nil hs2) (by rw [hs, hs2])
  refine (ha σ H g).mono fun vs H1 ⟨s1, r1⟩ => ?_
  cases r1 with
  | cons r1 rr =>
    cases rr with
    | cons r2 rr =>
      cases rr; cases r1; cases r2
      exact ⟨m, n, rfl, hb, q _ _ H1 s1 trivial wd_range⟩
theorem eiv_range1 {n : Int} (S : Sx X sc N) (hm : X.mg "range" = none) (hg : glB sc "range" = true) (h : Ev X ι Γ a (.im (.int n)) Γ1) (h1 : -(2 ^ 62) ≤ n) (h2 : n < 2 ^ 62) (hs : starEach [a] X.env = [(false, eval a X.env)] := by rfl) :
    Eiv X ι Γ tg (.Call (.Name "range" p) [a] [] pos) ((List.range n.toNat).map fun i => D.int (0 + (i : Nat))) Γ1 := by
  have ha : Evds X ι Γ [a] [.int n] Γ1 := evds_cons h evds_nil hs
  refine ⟨ha.1, _, pi_range1 (S.gl hg) hm (pa_wa X [a]) hs, fun C σ H R g q => ?_⟩
  refine (ha.2 C σ H g).mono fun vs H1 ⟨g1, s1, r1⟩ => ?_
  cases r1 with
  | cons r1 rr =>
    cases rr; cases r1
    exact ⟨n, rfl, h1, h2, q _ _ H1 g1 s1 trivial wd_range⟩
theorem ei_enum {pt : Pos} {ts : List Expr} {kk : Nat} (S : Sx X sc N) (hm : X.mg "enumerate" = none) (hg : glB sc "enumerate" = true) (h : Ep X ι Γ a (.im (.lst ds))) (hs : starEach [a] X.env = [(false, eval a X.env)] := by rfl) :
    Ei X ι Γ (.Tuple ts kk pt) (.Call (.Name "enumerate" p) [a] [] pos) (ds.zipIdx.map fun p => D.tup [.int (p.2 : Nat), p.1]) := by
  refine ⟨_, pi_enum (S.gl hg) hm (pa_wa X [a]) hs, fun σ H R g q => ?_⟩
  have ha : Eds X ι Γ [a] [.lst ds] := eds_cons h eds_nil hs
  refine (ha σ H g).mono fun vs H1 ⟨s1, r1⟩ => ?_
  cases r1 with
  | cons r1 rr =>
    cases rr
    cases r1 with
    | lst h1 h2 =>
      obtain ⟨G, g1, g2⟩ := wd_enum h1 h2
      exact ⟨_, _, rfl, h1.sq, q _ G H1 s1 g1 g2⟩

/-! ### targets -/
def WG (X : Cx) (tg : Expr) : TG := fun v σ H Q => ∀ (pins : List (Addr × Obj)) (s : Shared) (u : Value), Inv X pins σ H s → RelV v u → wpAny (model X.prog X.w) X.A (assign tg X.env u) (fun _ s' => ∃ σ' H', Inv X pins σ' H' s' ∧ Q σ' H') X.xe s
theorem pg_wg (X : Cx) (tg : Expr) : PG X tg (WG X tg) := ⟨fun pins s σ H v u Q I r h => h pins s u I r⟩
theorem WG.of {t : TG} {v : V} {σ : L2.St} {H : Hp} {Q : L2.St → Hp → Prop} (h : PG X tg t) (q : t v σ H Q) : WG X tg v σ H Q := fun pins s u I r => h.run pins s σ H v u Q I r q
theorem WG.mono {v : V} {σ : L2.St} {H : Hp} {Q Q' : L2.St → Hp → Prop} (h : WG X tg v σ H Q) (q : ∀ σ H, Q σ H → Q' σ H) : WG X tg v σ H Q' := fun pins s u I r => thn (h pins s u I r) fun _ s' ⟨σ', H', I', z⟩ => ⟨σ', H', I', q _ _ z⟩
/-- data d stored at the target: the slots become Γ' -/
def Eg (X : Cx) (ι : Addr → Nat → Prop) (tg : Expr) (d : D) (Γ Γ' : List Slot) : Prop :=
  ∀ C σ H v, EnvOk X.K ι C H σ Γ → Rep X.K ι H d v → WG X tg v σ H fun σ' H' => EnvOk X.K ι C H' σ' Γ'
theorem eg_name {d : D} (S : Sd X sc N) (i : Nat) {x : Str} (hN : N[i]? = some x) (hv : locB sc x = true) (hs : stoB Γ i = true := by rfl) : Eg X ι (.Name x pos) d Γ (Γ.set i (.im d)) := by
  intro C σ H v g r
  refine WG.of (pg_name (i := i) (by rw [S.hN]; exact S.nd) (by rw [S.hN]; exact hN) (by rw [S.hsc]; exact loc_of hv) (.inl (S.fn x))) ?_
  obtain ⟨h1, h2⟩ := stoB.lt hs
  exact g.setIm h1 h2 r
def Egs (X : Cx) (ι : Addr → Nat → Prop) (tgs : List Expr) (ds : List D) (Γ Γ' : List Slot) : Prop :=
  ∃ t, PGs X tgs t ∧ ∀ C σ H vs Q, EnvOk X.K ι C H σ Γ → Reps X.K ι H ds vs → (∀ σ' H', EnvOk X.K ι C H' σ' Γ' → Kp ι H H' → Q σ' H') → t vs σ H Q
def Egk (X : Cx) (ι : Addr → Nat → Prop) (tg : Expr) (d : D) (Γ Γ' : List Slot) : Prop :=
  ∀ C σ H v, EnvOk X.K ι C H σ Γ → Rep X.K ι H d v → WG X tg v σ H fun σ' H' => EnvOk X.K ι C H' σ' Γ' ∧ Kp ι H H'
theorem egk_name {d : D} (S : Sd X sc N) (i : Nat) {x : Str} (hN : N[i]? = some x) (hv : locB sc x = true) (hs : stoB Γ i = true := by rfl) : Egk X ι (.Name x pos) d Γ (Γ.set i (.im d)) := by
  intro C σ H v g r
  refine WG.of (pg_name (i := i) (by rw [S.hN]; exact S.nd) (by rw [S.hN]; exact hN) (by rw [S.hsc]; exact loc_of hv) (.inl (S.fn x))) ?_
  obtain ⟨h1, h2⟩ := stoB.lt hs
  exact ⟨g.setIm h1 h2 r, Kp.refl⟩
theorem egs_nil : Egs X ι [] [] Γ Γ := ⟨_, pgs_nil, fun C σ H vs Q g r q => by cases r; exact ⟨rfl, q _ _ g Kp.refl⟩⟩
theorem egs_cons {d : D} (h : Egk X ι a d Γ Γ1) (h' : Egs X ι es ds Γ1 Γ2) (hs : (assignEach (a :: es) X.env).map (·.2) = assign a X.env :: (assignEach es X.env).map (·.2) := by rfl) : Egs X ι (a :: es) (d :: ds) Γ Γ2 := by
  obtain ⟨t, pt, h'⟩ := h'
  refine ⟨_, pgs_cons (pg_wg X a) pt hs, fun C σ H vs Q g r q => ?_⟩
  cases r with
  | cons r rr =>
    refine ⟨_, _, rfl, ?_⟩
    refine (h C σ H _ g r).mono fun σ1 H1 ⟨g1, k1⟩ => ?_
    exact h' C σ1 H1 _ Q g1 (rr.mono k1) fun σ2 H2 g2 k2 => q σ2 H2 g2 (k1.trans k2)
theorem egk_tup {k : Nat} (S : Sx X sc N) (h : Egs X ι es ds Γ Γ') (hn : (assignEach es X.env).length = ds.length := by rfl) (hst : (assignEach es X.env).findIdx? (·.1) = none := by rfl) : Egk X ι (.Tuple es k pos) (.tup ds) Γ Γ' := by
  obtain ⟨t, pt, h⟩ := h
  intro C σ H v g r
  refine WG.of (pg_tup (n := ds.length) S.calm pt hn hst) ?_
  cases r with
  | tup h1 h2 => exact ⟨_, _, rfl, h1, h2.length, h C σ H _ _ g h2 fun σ' H' g' k => ⟨g', k⟩⟩
theorem eg_k {d : D} (h : Egk X ι tg d Γ Γ') : Eg X ι tg d Γ Γ' := fun C σ H v g r => (h C σ H v g r).mono fun _ _ z => z.1
/-- targets = e -/
theorem st_asg {d : D} {Φ : Ph} (h : Ev X ι Γ e (.im d) Γ1) (hg : Egk X ι tg d Γ1 Γ2) (h' : Φ.nx Γ2) (hs : swapsWithSole [tg] e pos.line X.env = pure false := by rfl) (hw : swappedStores [tg] e X.env = pure none := by rfl)
    (h1 : (assignEach [tg] X.env).map (·.2) = [assign tg X.env] := by rfl) : St X ι Γ (.Assign [tg] e pos) Φ := by
  intro C σ H tk g
  refine WS.of (ps_asg (pe_we X e) (pg_wg X tg) hs hw h1) ?_
  refine (h.2 C σ H g).mono fun v H1 ⟨g1, s1, r1⟩ => ?_
  exact (hg C σ H1 v g1 r1).mono fun σ' H' ⟨g2, k2⟩ => ⟨_, g2, s1.kp.trans k2, h'⟩

/-! ### for -/
theorem st_for {Φ : Ph} {body : List Stmt} (S : Sd X sc N) (po : PassesOwn (model X.prog X.w) X.A X.env X.xe) (hi : Eiv X ι Γ tg it ds Γ1) (I : Nat → List Slot → Prop) (h0 : I 0 Γ1)
    (hs : ∀ (i : Nat) (d : D) (Γ : List Slot), ds[i]? = some d → I i Γ → ∃ Γ', Egk X ι tg d Γ Γ' ∧ Sts X ι Γ' body { Φ with nx := I (i + 1), ct := I (i + 1), bk := Φ.nx }) (hd : ∀ Γ, I ds.length Γ → Φ.nx Γ)
    (hf : ∀ x, foldedSetIterable it X.env x = pure x := by intro _; rfl) : St X ι Γ (.For tg it body [] pos) Φ := by
  intro C σ H tk g
  obtain ⟨kd, wi, hp, hw⟩ := hi
  refine WS.of (ps_for po S.calm hp (pg_wg X tg) (pss_ws X body) hf) ?_
  refine hw C σ H _ g fun J G H1 g1 f1 hG W => ?_
  refine for_it W.2 (fun i σ' H' => ∃ Γ', EnvOk X.K ι C H' σ' Γ' ∧ I i Γ' ∧ G H' ∧ Kp ι H1 H') ⟨Γ1, g1, h0, hG, Kp.refl⟩ (fun i σ' H' _ ⟨_, _, _, q, _⟩ => q) ?_ fun σ' H' ⟨Γ', g', q, _, kk⟩ => ⟨Γ', g', f1.kp.trans kk, hd Γ' q⟩
  rintro i x σ' H' H'' hlt ⟨Γ', g', q, hG', kk⟩ ⟨s2, d, e, rd⟩
  obtain ⟨Γ'', hg, hb⟩ := hs i d Γ' e q
  refine (hg C σ' H'' x (g'.same s2) rd).mono fun σ2 H2 ⟨g2, k2⟩ => ?_
  intro pins s I
  refine thn (hb C σ2 H2 tk g2 pins s I) fun f s1 z => ?_
  exact SP.mono z (fun _ _ ⟨Γ3, g3, k3, z3⟩ => ⟨Γ3, g3, z3, W.1 _ _ ((s2.kp.trans k2).trans k3) hG', ((kk.trans s2.kp).trans k2).trans k3⟩) (fun _ _ z => z)
    (fun _ _ ⟨Γ3, g3, k3, z3⟩ => ⟨Γ3, g3, (((f1.kp.trans kk).trans s2.kp).trans k2).trans k3, z3⟩) (fun _ _ ⟨Γ3, g3, k3, z3⟩ => ⟨Γ3, g3, z3, W.1 _ _ ((s2.kp.trans k2).trans k3) hG', ((kk.trans s2.kp).trans k2).trans k3⟩)
end
end DL
/-! DL, part en: enumerate over a tuple. -/
namespace DLX
open PySem PySem.Spec L2 PyProof.Rows
theorem meets_enumerate_newT {v : Value} {o : Obj} {H : Heap → Prop} (B : Begins v o H) :
    Meets (Builtin.«enumerate.__new__» ⟨[.type "enumerate", v], []⟩) (fun _ R s => H s.heap ∧
      R (.ok (.ret (.ref (s.heap.push o).objs.size))) { s with heap := (s.heap.push o).push { cls := .type "enumerate", data := .fields #[.none, .bool false, .ref s.heap.objs.size, rawInt 0, .none, .none] } }) :=
  .of_wp fun prog w A R s h => by
    obtain ⟨hp, g, d, tk, os⟩ := s; obtain ⟨h1, h⟩ := h
    have hsub := sub_enumerate
    have q1 : ∀ {A' : Around} {E : Value → Shared → Prop} {Q : Value → Shared → Prop}, Q (.ref hp.objs.size) ⟨hp.push o, g, d, tk, os⟩ → wpAny (model prog w) A' (pyIter v) Q E ⟨hp, g, d, tk, os⟩ :=
      fun q => B.iter prog w _ _ ⟨hp, g, d, tk, os⟩ _ h1 q
    wp_walk using q1
    refine wpAny_stack_any fun st => wpAny_pure ?_
    split
    · rename_i c _ _ _ _ _
      cases (c == Value.type "enumerate")
      · wp_walk using q1
        exact ⟨_, rfl, h⟩
      · wp_walk using q1
        exact ⟨_, rfl, h⟩
    · wp_walk using q1
      exact ⟨_, rfl, h⟩
section
variable {prog : Program} {w : World} {A : Around} {E : Value → Shared → Prop} {s : Shared}
theorem call_enumerate_tuple {l : Addr} {items : Array Value} {Q : Value → Shared → Prop} (hL : s.heap.IsTuple l items)
    (h : ∀ h', IsEnum h' (s.heap.objs.size + 1) s.heap.objs.size 0 .none → h'.IsTupleIter s.heap.objs.size l 0 → h'.objs.size = s.heap.objs.size + 2 →
      (∀ b o, s.heap.get? b = some o → h'.get? b = some o) → Q (.ref (s.heap.objs.size + 1)) { s with heap := h' }) :
    wpAny (model prog w) A (call (.type "enumerate") [.ref l]) Q E s := by
  refine callType_new F.called_enumerate (by decide) (F.typeCall_enumerate_1 _) (F.newCall_enumerate_1 _) (fun obj => F.args_object_init_2 obj _) F.entry_enumerate_new
    (meets_enumerate_newT (begins_tuple l items)) ⟨hL, ?_⟩
  have hz : (s.heap.push { cls := .type "tuple_iterator", data := .fields #[.ref l, .int 0 0] }).objs.size = s.heap.objs.size + 1 := Heap.size_push ..
  show _ ∧ _
  rw [hz]
  have he : IsEnum ((s.heap.push { cls := .type "tuple_iterator", data := .fields #[.ref l, .int 0 0] }).push
      { cls := .type "enumerate", data := .fields #[.none, .bool false, .ref s.heap.objs.size, rawInt 0, .none, .none] }) (s.heap.objs.size + 1) s.heap.objs.size 0 .none := by
    have := Heap.get?_push_size (s.heap.push { cls := .type "tuple_iterator", data := .fields #[.ref l, .int 0 0] })
      (o := { cls := .type "enumerate", data := .fields #[.none, .bool false, .ref s.heap.objs.size, rawInt 0, .none, .none] }) rfl
    rw [hz] at this; exact this
  refine ⟨⟨_, he, rfl⟩, h _ he ⟨_, Heap.get?_push_of_some _ (Heap.get?_push_size _ rfl), rfl, rfl⟩ (by rw [Heap.size_push, hz]) fun b o x => Heap.get?_push_of_some _ (Heap.get?_push_of_some _ x)⟩
end
/-- the tuple at a, each item in a new pair -/
def IteT (K : PySem.W.Frag) (a : Addr) : It :=
  ⟨fun i H => ∃ (xs : List V) (x : V), SqT K H a xs ∧ xs[i]? = some x, fun i H v H' => ∃ T x, v = .ref T ∧ H T = none ∧ H' = upd H T (.tup [.int (i : Nat), x]) ∧ ∀ xs, SqT K H a xs → xs[i]? = some x, fun i H => ∃ xs : List V, SqT K H a xs ∧ xs.length ≤ i⟩
theorem enum_ne {h : Heap} {e a it : Addr} {i : Int} {old : Value} {items : Array Value} (he : IsEnum h e it i old) (ht : h.IsTuple a items) : e ≠ a := by
  rintro rfl
  obtain ⟨o, h1, h2, _⟩ := ht
  rw [he] at h1
  cases h1
  injection h2 with h2
  exact absurd h2 (by decide)
theorem iter_ne {h : Heap} {a it : Addr} {i : Nat} {items : Array Value} (he : h.IsTupleIter it a i) (ht : h.IsTuple a items) : a ≠ it := by
  rintro rfl
  obtain ⟨o, h1, h2, _⟩ := ht
  obtain ⟨o', h1', h2', _⟩ := he
  rw [h1'] at h1
  cases h1
  rw [h2'] at h2
  injection h2 with h2
  exact absurd h2 (by decide)
theorem turn_enumT {P : Program} {w : World} {K : PySem.W.Frag} {elts : List Expr} {kk : Nat} {tpos : Pos} (a e it : Addr) :
    Turn P w K (.Tuple elts kk tpos) (IteT K a) [e, it] e (fun i h => (∃ old, IsEnum h e it ((i : Nat) : Int) old) ∧ h.IsTupleIter it a i ∧ e ≠ it) where
  mem := by simp
  obj := fun i h st b hb => by
    obtain ⟨⟨old, he⟩, ⟨o, ho, hc, hd⟩, _⟩ := st
    have e' : b = e ∨ b = it := by simpa using hb
    rcases e' with z | z
    · rw [z]; exact ⟨_, he, fun v q => nomatch q⟩
    · rw [z]; exact ⟨o, ho, fun v q => by rw [hd] at q; cases q⟩
  keep := fun i h h' st k => let ⟨⟨old, he⟩, hi, hne⟩ := st; ⟨⟨old, k e (by simp) _ he⟩, hi.at fun o q => k it (by simp) o q, hne⟩
  item := by
    intro X hP hw hK hc i pins s σ H E I hf st hg
    subst hP hw hK
    obtain ⟨⟨old, he⟩, hit, hne⟩ := st
    obtain ⟨xs, x, hq, hx⟩ := hg
    obtain ⟨its, rv, p, hz⟩ := I.tuple hq
    obtain ⟨u, hu, ru⟩ := rv.get hx
    have pt : s.heap.IsTuple a its.toArray := p
    have hel : e < s.heap.objs.size := Heap.lt_size he
    have hil : it < s.heap.objs.size := by obtain ⟨_, q, _⟩ := hit; exact Heap.lt_size q
    have hlt : i < its.toArray.size := by
      have := (List.getElem?_eq_some_iff.mp hu).1
      simpa using this
    refine wpAny_pyNext_enum_itemD (Draws.tuple (A := X.A.in1) (show X.A.in1.handled = none from I.ok.hd hc) it a (iter_ne hit pt) its.toArray) he ⟨hit, pt⟩ hlt hne (by
      intro z
      have e' : e = it ∨ e = a := by simpa using z
      rcases e' with z | z
      · exact hne z
      · exact enum_ne he pt z) fun x' h' tk hP' ho hst' hT hsz hk => ?_
    obtain ⟨hit', pt'⟩ := hst'
    have hxu : x' = u := by
      have h1 : its.toArray[i]? = some x' := hP'
      have h2 : its.toArray[i]? = some u := by simpa using hu
      rw [h1] at h2
      exact Option.some.inj h2
    subst hxu
    refine ⟨_, rfl, wpAny_letOwnedTupleGo_enum (s := { s with heap := h', toks := tk + 1 }) ho fun h'' he' sb => ?_⟩
    have hT2 : h''.get? s.heap.objs.size = some { cls := .type "tuple", data := .seq #[.int i tk, x'] } := (sb.2 _ (Nat.ne_of_gt hel)).trans hT
    have new : ObjOk X.prog X.w (upd H s.heap.objs.size (.tup [.int (i : Nat), x])) h'' s.heap.objs.size (.tup [.int (i : Nat), x]) :=
      ⟨by show 2 ≤ sizeLine; decide, [.int i tk, x'], .cons ⟨_, rfl⟩ (.cons ru .nil), ⟨_, hT2, rfl, _, rfl⟩⟩
    have I1 : Inv X pins σ (upd H s.heap.objs.size (.tup [.int (i : Nat), x])) { s with heap := h'', toks := tk + 1 } :=
      I.turnedNew (ch := [e, it]) (fun b ob hb q => (sb.2 b (fun z => hb (by simp [z]))).trans (hk b ob (fun z => hb (by simp [z])) (fun z => hb (by simp [z])) q)) hf (Nat.le_refl _) new
    refine ⟨.ref s.heap.objs.size, _, I1, rfl, ⟨_, x, rfl, I.hok.fresh (Nat.le_refl _), rfl, fun ys hy => by rw [I.tuple_inj hy hq]; exact hx⟩, ⟨⟨x', ?_⟩, hit'.at fun o q => (sb.2 it (Ne.symm hne)).trans q, hne⟩, fun b hb => ?_⟩
    · have e1 : ((i + 1 : Nat) : Int) = (i : Int) + 1 := by omega
      rw [e1]; exact he'
    · have hb' : b < s.heap.objs.size := by
        have e' : b = e ∨ b = it := by simpa using hb
        rcases e' with z | z
        · rw [z]; exact hel
        · rw [z]; exact hil
      rw [upd_ne (Nat.ne_of_lt hb')]
      exact (hf b hb).1
  done := by
    intro X hP hw hK hc i pins s σ H E I hf st hg
    subst hP hw hK
    obtain ⟨⟨old, he⟩, hit, hne⟩ := st
    obtain ⟨xs, hq, hx⟩ := hg
    obtain ⟨its, rv, p, hz⟩ := I.tuple hq
    obtain ⟨f0, f1, f2, f3, f4, f5⟩ := hf it (by simp)
    have hl := rv.length
    have pt : s.heap.IsTuple a its.toArray := p
    have hT : s.TypeIs (.ref e) "enumerate" := ⟨_, he, rfl⟩
    unfold pyNext
    refine wpAny_bind (wpAny_attempt (wpAny_callSpecial?_slot (name := Str.ofString "__next__") hT F.slot_enumerate_next
      (wpAny_call_entry F.slot_enumerate_next hT F.entry_enumerate_next ?_ (F.args_enumerate_next_1 _))))
    show wpAny _ _ (field (.ref e) 2 >>= _) _ _ _
    refine wpAny_bind (wpAny_field he rfl (x := .ref it) rfl ?_)
    refine wpAny_bind (wpAny_nextOf_tuple_end (I.ok.hd hc) hit pt (by simp; omega) fun h' x he' hx' => ?_)
    obtain ⟨o, ho, hc'⟩ := hx'
    refine wpAny_bind (wpAny_isInstance (T := "StopIteration") (b := true) ⟨o, ho, hc'⟩ isSubtype_stop ?_)
    exact wpAny_pure ⟨rfl, I.turned (t' := s.toks) (fun b o hb q => he' b o hb q) f0 f1 f3 f4 f5⟩
  self := fun A i s Q E st h => let ⟨⟨_, he⟩, _⟩ := st; wpAny_pyIter_enum he h
def iEnumT (K : PySem.W.Frag) (ta : TA) : TI := fun σ H R => ta σ H fun vs H1 => ∃ a xs, vs = [.ref a] ∧ SqT K H1 a xs ∧ R (IteT K a) H1
theorem pi_enumT {X : Cx} {e : Expr} {ta : TA} {p pos tpos : Pos} {elts : List Expr} {kk : Nat} (hg : Gl X "enumerate") (hm : X.mg "enumerate" = none) (ha : PA X [e] ta) (hs : starEach [e] X.env = [(false, eval e X.env)] := by rfl) :
    PI X (.Tuple elts kk tpos) (.Call (.Name "enumerate" p) [e] [] pos) (iEnumT X.K ta) := by
  refine ⟨fun pins s σ H R I h => ?_⟩
  refine Call_ (ld_blt I hg hm boot_enumerate (PyProof.Rows.callWith_type1 (thn (ha.run pos pins s σ H _ I h) fun us s1 ⟨vs, H1, I1, r1, q1⟩ => ?_) hs rfl))
  obtain ⟨a, xs, ex, hq, q⟩ := q1
  subst ex
  cases r1 with
  | cons r rr =>
    cases rr
    cases r
    obtain ⟨its, rv, p', hz⟩ := I1.tuple hq
    refine call_enumerate_tuple (show s1.heap.IsTuple a its.toArray from p') fun h' he hit hsz hk => wpAny_pyIter_enum he ?_
    have I2 : Inv X pins σ H1 { s1 with heap := h' } := I1.kept (t' := s1.toks) hk
    refine ⟨s1.heap.objs.size + 1, [s1.heap.objs.size + 1, s1.heap.objs.size], _, _, H1, rfl, I2, turn_enumT a (s1.heap.objs.size + 1) s1.heap.objs.size, ⟨⟨.none, he⟩, hit, Nat.succ_ne_self _⟩, fun b hb => ?_, q⟩
    have e' : b = s1.heap.objs.size + 1 ∨ b = s1.heap.objs.size := by simpa using hb
    have hle : s1.heap.objs.size ≤ b := by
      rcases e' with z | z
      · rw [z]; exact Nat.le_add_right _ _
      · rw [z]; exact Nat.le_refl _
    exact I1.fpOk hle (I1.hok.fresh hle)
theorem walk_enumT {K : PySem.W.Frag} {a : Addr} {xs : List V} : Walk (IteT K a) xs.length (fun H => SqT K H a xs) (YPair (fun i => some (.int (i : Nat))) (fun i => xs[i]?)) := by
  refine ⟨fun i _ hi q => ⟨xs, xs[i], q, by simp [hi]⟩, fun _ q => ⟨xs, q, Nat.le_refl _⟩, fun i H v H' _ q y => ?_⟩
  obtain ⟨T, x, h1, h2, h3, h4⟩ := y
  exact ⟨T, .int (i : Nat), x, h1, h2, h3, rfl, h4 xs q⟩
end DLX
namespace DL
open PySem PySem.Spec L2
section
variable {X : Cx} {ι : Addr → Nat → Prop} {Γ Γ1 Γ2 Γ' : List Slot} {sc : Scope} {N : List Str} {tg it e a b : Expr} {es : List Expr} {pos p : Pos} {ds : List D} {K : PySem.W.Frag} {H : Hp}
theorem wd_enumT {a : Addr} {vs : List V} (h : SqT K H a vs) (r : Reps K ι H ds vs) : ∃ G : Hp → Prop, G H ∧ WD K ι (ds.zipIdx.map fun p => D.tup [.int (p.2 : Nat), p.1]) (DLX.IteT K a) G := by
  refine ⟨fun H => SqT K H a vs ∧ Reps K ι H ds vs, ⟨h, r⟩, fun H1 H2 k ⟨x, y⟩ => ⟨k.sqT x, y.mono k⟩, ?_⟩
  have w := DLX.walk_enumT (K := K) (a := a) (xs := vs)
  rw [List.length_map, List.length_zipIdx, ← r.length]
  refine w.mono (fun H h => h.1) fun i H1 x H2 hi hg y => ?_
  obtain ⟨T, x', y', e1, e2, e3, e4, e5⟩ := y
  subst e1 e3
  cases e4
  obtain ⟨d, e6, e7⟩ := hg.2.getV e5
  refine ⟨same_new e2, .tup [.int (i : Nat), d], ?_, .tup (SqT.of upd_same) (.cons (.int _) (.cons (e7.mono (same_new e2).kp) .nil))⟩
  rw [List.getElem?_map, List.getElem?_zipIdx, e6]
  simp
theorem ei_enumT {pt : Pos} {ts : List Expr} {kk : Nat} (S : Sx X sc N) (hm : X.mg "enumerate" = none) (hg : glB sc "enumerate" = true) (h : Ep X ι Γ a (.im (.tup ds))) (hs : starEach [a] X.env = [(false, eval a X.env)] := by rfl) :
    Ei X ι Γ (.Tuple ts kk pt) (.Call (.Name "enumerate" p) [a] [] pos) (ds.zipIdx.map fun p => D.tup [.int (p.2 : Nat), p.1]) := by
  refine ⟨_, DLX.pi_enumT (S.gl hg) hm (pa_wa X [a]) hs, fun σ H R g q => ?_⟩
  have ha : Eds X ι Γ [a] [.tup ds] := eds_cons h eds_nil hs
  refine (ha σ H g).mono fun vs H1 ⟨s1, r1⟩ => ?_
  cases r1 with
  | cons r1 rr =>
    cases rr
    cases r1 with
    | tup h1 h2 =>
      obtain ⟨G, g1, g2⟩ := wd_enumT h1 h2
      exact ⟨_, _, rfl, h1, q _ G H1 s1 g1 g2⟩
end
end DL
/-! DL, part g: comprehensions. -/
namespace DL
open PySem PySem.Spec L2 PyProof.Rows

/-- the context of a comprehension's block -/
abbrev BX (X : Cx) (scope : Scope) (s0 : Shared) (H0 : Hp) (C : Addr) (cl : List (Str × Addr)) (fp : List Addr) : Cx := X.blk s0 H0 scope (compEnvC scope cl C X.env) fp
theorem Sx.blk {X : Cx} {sc scope : Scope} {N : List Str} (S : Sx X sc N) {s0 : Shared} {H0 : Hp} {C : Addr} {cl : List (Str × Addr)} {fp : List Addr} : Sx (BX X scope s0 H0 C cl fp) (relS scope sc) N :=
  ⟨by rw [← S.hsc]; rfl, S.hN, S.nd, S.calm⟩
section
variable {X : Cx} {ι : Addr → Nat → Prop} {Γ Γ1 Γ2 Γ' : List Slot} {sc scope : Scope} {N : List Str} {tg it elt e a b : Expr} {es : List Expr} {pos p px : Pos} {ds : List D} {K : PySem.W.Frag} {H : Hp} {σ : L2.St}
def WGb (X : Cx) (scope : Scope) (tg : Expr) : TG := fun v σ H Q => ∀ s0 H0 C cl fp, WG (BX X scope s0 H0 C cl fp) tg v σ H Q
def WEb (X : Cx) (scope : Scope) (e : Expr) : TE := fun σ H Q => ∀ s0 H0 C cl fp, WE (BX X scope s0 H0 C cl fp) e σ H Q
def WTs (X : Cx) (ifs : List Expr) : TT := fun σ H Q => ∀ (pins : List (Addr × Obj)) (s : Shared), Inv X pins σ H s → wpAny (model X.prog X.w) X.A (forIn ifs true fun c r => if r = true then do let ok ← isTrue c X.env (eval c X.env); pure (ForInStep.yield ok) else pure (ForInStep.yield r)) (TP X pins σ Q) X.xe s
def WTb (X : Cx) (scope : Scope) (ifs : List Expr) : TT := fun σ H Q => ∀ s0 H0 C cl fp, WTs (BX X scope s0 H0 C cl fp) ifs σ H Q
/-- slots forgotten -/
def unAt (Γ : List Slot) : List Nat → List Slot
  | [] => Γ
  | j :: vs => (unAt Γ vs).set j .un
theorem unAt_length : ∀ vs : List Nat, (unAt Γ vs).length = Γ.length
  | [] => rfl
  | j :: vs => by unfold unAt; rw [List.length_set, unAt_length vs]
theorem EnvR.setUn {j : Nat} {o : Option V} (g : EnvR K ι H σ Γ) : EnvR K ι H (σ.set j o) (Γ.set j .un) := by
  refine ⟨by rw [List.length_set, List.length_set]; exact g.len, fun i s e => ?_⟩
  by_cases hj : j = i
  · subst hj
    by_cases hl : j < Γ.length
    · rw [List.getElem?_set_self hl] at e; cases e; trivial
    · rw [List.getElem?_eq_none (by rw [List.length_set]; omega)] at e; cases e
  · rw [List.getElem?_set_ne hj] at e
    rw [List.getElem?_set_ne hj]
    exact g.ok i s e
theorem EnvR.wipe (g : EnvR K ι H σ Γ) : ∀ vs : List Nat, EnvR K ι H (wipe σ vs) (unAt Γ vs)
  | [] => g
  | j :: vs => (EnvR.wipe g vs).setUn
theorem EnvR.setIm {j : Nat} {v : V} {d : D} (g : EnvR K ι H σ Γ) (r : Rep K ι H d v) : EnvR K ι H (σ.set j (some v)) (Γ.set j (.im d)) := by
  refine ⟨by rw [List.length_set, List.length_set]; exact g.len, fun i s e => ?_⟩
  by_cases hj : j = i
  · subst hj
    by_cases hl : j < Γ.length
    · rw [List.getElem?_set_self hl] at e; cases e
      exact ⟨v, by rw [List.getElem?_set_self (by rw [g.len]; exact hl)], r⟩
    · rw [List.getElem?_eq_none (by rw [List.length_set]; omega)] at e; cases e
  · rw [List.getElem?_set_ne hj] at e
    rw [List.getElem?_set_ne hj]
    exact g.ok i s e
/-- a block's targets: data d stored at the target, the slots then hold Γ' -/
def Ebt (X : Cx) (ι : Addr → Nat → Prop) (scope : Scope) (vs : List Nat) (tg : Expr) (d : D) (Γ Γ' : List Slot) : Prop :=
  ∀ σ H v, EnvR X.K ι H σ Γ → Rep X.K ι H d v → WGb X scope tg v (wipe σ vs) H fun σ2 H2 => Same H H2 ∧ wipe σ2 vs = wipe σ vs ∧ EnvR X.K ι H2 σ2 Γ'
/-- what comes of a comprehension's reading: everything that a rule of one wants -/
structure LcOk (X : Cx) (ι : Addr → Nat → Prop) (Γ : List Slot) (tg it elt : Expr) (ifs : List Expr) (scope : Scope) (own : List (Str × Nat)) (ds : List D) : Prop where
  ok : ∃ wi, PI X tg it wi ∧ ∀ σ H Q, EnvR X.K ι H σ Γ → (∀ q H', Same H H' → H q = none → MRep X.K ι H' q (.lst ds) → Q (.ref q) H') → tLc wi (WGb X scope tg) (WTb X scope ifs) (WEb X scope elt) (own.map (·.2)) σ H Q
theorem pg_wgb {s0 : Shared} {H0 : Hp} {C : Addr} {cl : List (Str × Addr)} {fp : List Addr} : PG (BX X scope s0 H0 C cl fp) tg (WGb X scope tg) := ⟨fun pins s σ H v u Q I r h => h s0 H0 C cl fp pins s u I r⟩
theorem pe_web {s0 : Shared} {H0 : Hp} {C : Addr} {cl : List (Str × Addr)} {fp : List Addr} : PE (BX X scope s0 H0 C cl fp) e (WEb X scope e) := ⟨fun pins s σ H Q I h => h s0 H0 C cl fp pins s I⟩
theorem pts_wtb {s0 : Shared} {H0 : Hp} {C : Addr} {cl : List (Str × Addr)} {fp : List Addr} {ifs : List Expr} : PTs (BX X scope s0 H0 C cl fp) ifs (WTb X scope ifs) := ⟨fun pins s σ H Q I h => h s0 H0 C cl fp pins s I⟩
theorem lc_ok {α : Type} {xs : List α} {c : α → D} {f : α → Bool} {g : α → D} {own : List (Str × Nat)} {ifs : List Expr} (hi : Ei X ι Γ tg it ds) (hd : ds = xs.map c) (Γ2 : α → List Slot) (ht : ∀ x ∈ xs, Ebt X ι scope (own.map (·.2)) tg (c x) Γ (Γ2 x))
    (hif : ∀ x ∈ xs, ∀ σ H, EnvR X.K ι H σ (Γ2 x) → WTb X scope ifs σ H fun b H' => Same H H' ∧ b = f x)
    (he : ∀ x ∈ xs, f x = true → ∀ s0 H0 C cl fp, Ep (BX X scope s0 H0 C cl fp) ι (Γ2 x) elt (.im (g x))) (hz : xs.length ≤ sizeLine) : LcOk X ι Γ tg it elt ifs scope own ((xs.filter f).map g) := by
  subst hd
  obtain ⟨wi, hp, hw⟩ := hi
  refine ⟨wi, hp, fun σ H Q gr q => ?_⟩
  refine hw σ H _ gr fun J G H1 s1 hG W => ?_
  intro D' hD
  have sD : Same H1 (upd H1 D' (.lst [])) := same_new hD
  refine lc_it W.2 (fun i H' => ∃ acc, H' D' = some (.lst acc) ∧ Reps X.K ι H' (((xs.take i).filter f).map g) acc ∧ Same H1 H' ∧ G H') ⟨[], upd_same, by rw [List.take_zero]; exact .nil, sD, W.1 _ _ sD.kp hG⟩ (fun i H' _ ⟨_, _, _, _, q⟩ => q) ?_ ?_
  · rintro i x H' H'' hlt ⟨acc, hacc, rs, sm, hG'⟩ ⟨s2, d, e, rd⟩
    rw [List.length_map] at hlt
    have ex : xs[i]? = some xs[i] := List.getElem?_eq_getElem hlt
    rw [List.getElem?_map, ex] at e
    have e' : c xs[i] = d := by simpa using e
    subst e'
    have mem : xs[i] ∈ xs := List.getElem_mem hlt
    have tk : xs.take (i + 1) = xs.take i ++ [xs[i]] := by rw [List.take_succ, ex]; rfl
    have g1 : EnvR X.K ι H'' σ Γ := gr.same ((s1.trans sm).trans s2)
    intro s0 H0 C cl fp pins s u I r
    refine thn (ht _ mem σ H'' x g1 rd s0 H0 C cl fp pins s u I r) fun _ s' ⟨σ2, H2, I2, s3, we, g2⟩ => ⟨σ2, H2, I2, we, ?_⟩
    intro s0 H0 C cl fp pins s I
    refine thn (hif _ mem σ2 H2 g2 s0 H0 C cl fp pins s I) fun b s' ⟨H3, I3, s4, eb⟩ => ⟨H3, I3, ?_⟩
    subst eb
    have s14 : Same H' H3 := (s2.trans s3).trans s4
    cases hf : f xs[i] with
    | false =>
      rw [if_neg (by simp)]
      refine ⟨acc, s14 _ _ hacc, ?_, sm.trans s14, W.1 _ _ s14.kp hG'⟩
      rw [tk, List.filter_append]
      simp only [List.filter_cons, hf, List.filter_nil]
      simpa using rs.mono s14.kp
    | true =>
      rw [if_pos rfl]
      intro s0 H0 C cl fp pins s I
      refine thn (he _ mem hf s0 H0 C cl fp σ2 H3 (g2.same s4) pins s I) fun u s' ⟨v, H4, I4, rv, s5, r5⟩ => ⟨v, H4, I4, rv, ?_⟩
      have s15 : Same H' H4 := s14.trans s5
      refine ⟨acc, s15 _ _ hacc, ?_, acc ++ [v], upd_same, ?_, ?_, ?_⟩
      · have l1 := rs.length
        rw [List.length_map] at l1
        have l2 : ((xs.take i).filter f).length ≤ (xs.take i).length := List.length_filter_le _ _
        rw [List.length_take] at l2
        omega
      · have k : Kp ι H4 (upd H4 D' (.lst (acc ++ [v]))) := fun b o e i => by
          rw [upd_ne (fun z => by subst z; rw [s15 _ _ hacc] at e; cases e; exact i)]; exact e
        rw [tk, List.filter_append, List.map_append]
        simp only [List.filter_cons, hf, List.filter_nil, if_true, List.map_cons, List.map_nil]
        exact ((rs.mono s15.kp).mono k).snoc (Rep.mono k r5)
      · intro b o e
        rw [upd_ne (ne_of_none e hD)]
        exact s15 _ _ (sm _ _ e)
      · refine W.1 H' _ (fun b o e i => ?_) hG'
        rw [upd_ne (fun z => by subst z; rw [hacc] at e; cases e; exact i)]
        exact s15 _ _ e
  · rintro H' ⟨acc, hacc, rs, sm, _⟩
    rw [List.length_map, List.take_length] at rs
    exact q D' H' (s1.trans sm) (s1.free hD) ⟨acc, hacc, rs⟩
theorem ep_lc {ifs : List Expr} {own : List (Str × Nat)} (S : Sx X sc N) (h : LcOk X ι Γ tg it elt ifs scope own ds) (hb : blkC N sc scope own = true) (hs : ∀ x, foldedSetIterable it X.env x = pure x := by intro _; rfl) :
    Ep X ι Γ (.ListComp elt [⟨tg, it, ifs, 0⟩] scope pos) (.ow (.lst ds)) := by
  intro σ H g
  obtain ⟨wi, hp, hw⟩ := h.ok
  refine WE.of (pe_lc (own := own) S.calm (by rw [S.hN]; exact S.nd) hp (by rw [S.hN, S.hsc]; exact blkOk_by hb) (fun s H C cl fp => pg_wgb) (fun s H C cl fp => pts_wtb) (fun s H C cl fp => pe_web) hs) ?_
  exact hw σ H _ g fun q H' s n r => ⟨s, q, rfl, n, r⟩
/-- x = [..] on one line -/
theorem st_setLc {Φ : Ph} {spos : Pos} {ifs : List Expr} {own : List (Str × Nat)} {y : Str} (S : Sd X sc N) (i : Nat) (hN : N[i]? = some y) (hy : sc.names.lookup y = some .local) (h : LcOk X ι Γ tg it elt ifs scope own ds) (hb : blkC N sc scope own = true)
    (hk : sc.kind = .function) (hl : (px.line == pos.line) = true) (hu : (scope.names.any fun (n, k) => n == y && (k == .local || k == .cell)) = false) (h' : Φ.nx (Γ.set i (.ow (.lst ds)))) (hs : stoB Γ i = true := by rfl) (hf : ∀ x, foldedSetIterable it X.env x = pure x := by intro _; rfl) :
    St X ι Γ (.Assign [.Name y px] (.ListComp elt [⟨tg, it, ifs, 0⟩] scope pos) spos) Φ := by
  intro C σ H tk g
  obtain ⟨wi, hp, hw⟩ := h.ok
  refine WS.of (ps_setLc (i := i) (own := own) S.calm (by rw [S.hN]; exact S.nd) (by rw [S.hN]; exact hN) (by rw [S.hsc]; exact hy) (sw_true (by rw [S.hsc]; exact hk) (by rw [S.hsc]; exact hy) hl hu) hp (by rw [S.hN, S.hsc]; exact blkOk_by hb) (fun s H C cl fp => pg_wgb) (fun s H C cl fp => pts_wtb) (fun s H C cl fp => pe_web) hf) ?_
  refine hw σ H _ g.toEnvR fun q H' s n r => ?_
  obtain ⟨h1, h2⟩ := stoB.lt hs
  have g1 := g.same s
  exact ⟨_, g1.setOw h1 h2 r (g.free n) (fun z => g.toEnvR.notOwned n z), s.kp, h'⟩
/-- .. and is data from here on -/
theorem st_setLcD {Φ : Ph} {spos : Pos} {ifs : List Expr} {own : List (Str × Nat)} {y : Str} (S : Sd X sc N) (i : Nat) (hN : N[i]? = some y) (hy : sc.names.lookup y = some .local) (h : LcOk X ι Γ tg it elt ifs scope own ds) (hb : blkC N sc scope own = true)
    (hk : sc.kind = .function) (hl : (px.line == pos.line) = true) (hu : (scope.names.any fun (n, k) => n == y && (k == .local || k == .cell)) = false) (h' : Φ.nx (Γ.set i (.im (.lst ds)))) (hs : stoB Γ i = true := by rfl) (hf : ∀ x, foldedSetIterable it X.env x = pure x := by intro _; rfl) :
    St X ι Γ (.Assign [.Name y px] (.ListComp elt [⟨tg, it, ifs, 0⟩] scope pos) spos) Φ := by
  intro C σ H tk g pins s I
  obtain ⟨wi, hp, hw⟩ := h.ok
  obtain ⟨h1, h2⟩ := stoB.lt hs
  refine thn ((ps_setLc (i := i) (own := own) S.calm (by rw [S.hN]; exact S.nd) (by rw [S.hN]; exact hN) (by rw [S.hsc]; exact hy) (sw_true (by rw [S.hsc]; exact hk) (by rw [S.hsc]; exact hy) hl hu) hp (by rw [S.hN, S.hsc]; exact blkOk_by hb) (fun s H C cl fp => pg_wgb) (fun s H C cl fp => pts_wtb) (fun s H C cl fp => pe_web) hf).run pins s σ H { nx := fun σ' H' => ∃ q, σ' = σ.set i (some (.ref q)) ∧ Same H H' ∧ H q = none ∧ MRep X.K ι H' q (.lst ds), rt := fun _ _ => False } I (hw σ H _ g.toEnvR fun q H' sm n r => ⟨q, rfl, sm, n, r⟩)) fun f s1 z => ?_
  cases f with
  | brk => obtain ⟨_, _, _, z⟩ := z; exact z.elim
  | cont => obtain ⟨_, _, _, z⟩ := z; exact z.elim
  | ret u => obtain ⟨_, _, _, _, _, z⟩ := z; exact z.elim
  | next =>
    obtain ⟨σ', H', I', q, rfl, sm, n, vs, e, r⟩ := z
    obtain ⟨o, J⟩ := fz_inv I' e trivial
    have kp : Kp ι H' (upd H' q (.frz o (.lst vs))) := fun b w q' i => by
      rw [upd_ne (fun z => by subst z; rw [e] at q'; cases q'; exact i)]; exact q'
    have s2 : Same H (upd H' q (.frz o (.lst vs))) := fun b w q' => by rw [upd_ne (ne_of_none q' n)]; exact sm _ _ q'
    exact ⟨_, _, J, _, (g.same s2).setIm h1 h2 (.lst ⟨o, upd_same⟩ (r.mono kp)), s2.kp, h'⟩

/-! ### the forms one uses: one name, two names; no test, one test -/
theorem ebt_name (S : Sx X sc N) {d : D} (j : Nat) {x : Str} (hN : N[j]? = some x) (hx : (relS scope sc).names.lookup x = some .local) (hl : j < Γ.length) : Ebt X ι scope [j] (.Name x px) d Γ (Γ.set j (.im d)) := by
  intro σ H v g r s0 H0 C cl fp
  have S' := S.blk (scope := scope) (s0 := s0) (H0 := H0) (C := C) (cl := cl) (fp := fp)
  refine WG.of (pg_name (i := j) (by rw [S'.hN]; exact S'.nd) (by rw [S'.hN]; exact hN) (by rw [S'.hsc]; exact .inl hx) (.inr (by rw [S'.hsc]; exact hx))) ?_
  have gw := g.wipe [j]
  have hs : j < σ.length := by rw [g.len]; exact hl
  refine ⟨Same.refl _, ?_, ?_⟩
  · show ((σ.set j none).set j (some v)).set j none = σ.set j none
    rw [List.set_set, List.set_set]
  · show EnvR X.K ι H ((σ.set j none).set j (some v)) (Γ.set j (.im d))
    rw [List.set_set]
    exact g.setIm r
theorem ebt_two (S : Sx X sc N) {d1 d2 : D} {p1 p2 : Pos} {k : Nat} (j1 j2 : Nat) {x1 x2 : Str} (hN1 : N[j1]? = some x1) (hN2 : N[j2]? = some x2) (hx1 : (relS scope sc).names.lookup x1 = some .local) (hx2 : (relS scope sc).names.lookup x2 = some .local) (hne : j1 ≠ j2)
    (hn : ∀ s0 H0 C cl fp, (assignEach [.Name x1 p1, .Name x2 p2] (BX X scope s0 H0 C cl fp).env).length = 2 := by intros; rfl) (hst : ∀ s0 H0 C cl fp, (assignEach [.Name x1 p1, .Name x2 p2] (BX X scope s0 H0 C cl fp).env).findIdx? (·.1) = none := by intros; rfl)
    (ha : ∀ s0 H0 C cl fp, (assignEach (.Name x1 p1 :: [.Name x2 p2]) (BX X scope s0 H0 C cl fp).env).map (·.2) = assign (.Name x1 p1) (BX X scope s0 H0 C cl fp).env :: (assignEach [.Name x2 p2] (BX X scope s0 H0 C cl fp).env).map (·.2) := by intros; rfl)
    (hb : ∀ s0 H0 C cl fp, (assignEach (.Name x2 p2 :: []) (BX X scope s0 H0 C cl fp).env).map (·.2) = assign (.Name x2 p2) (BX X scope s0 H0 C cl fp).env :: (assignEach [] (BX X scope s0 H0 C cl fp).env).map (·.2) := by intros; rfl) :
    Ebt X ι scope [j1, j2] (.Tuple [.Name x1 p1, .Name x2 p2] k px) (.tup [d1, d2]) Γ ((Γ.set j1 (.im d1)).set j2 (.im d2)) := by
  intro σ H v g r s0 H0 C cl fp
  have S' := S.blk (scope := scope) (s0 := s0) (H0 := H0) (C := C) (cl := cl) (fp := fp)
  have q1 : PG (BX X scope s0 H0 C cl fp) (.Name x1 p1) (gName j1) := pg_name (by rw [S'.hN]; exact S'.nd) (by rw [S'.hN]; exact hN1) (by rw [S'.hsc]; exact .inl hx1) (.inr (by rw [S'.hsc]; exact hx1))
  have q2 : PG (BX X scope s0 H0 C cl fp) (.Name x2 p2) (gName j2) := pg_name (by rw [S'.hN]; exact S'.nd) (by rw [S'.hN]; exact hN2) (by rw [S'.hsc]; exact .inl hx2) (.inr (by rw [S'.hsc]; exact hx2))
  refine WG.of (pg_tup (n := 2) S'.calm (pgs_cons q1 (pgs_cons q2 pgs_nil (hb s0 H0 C cl fp)) (ha s0 H0 C cl fp)) (hn s0 H0 C cl fp) (hst s0 H0 C cl fp)) ?_
  cases r with
  | tup h1 h2 =>
    cases h2 with
    | cons r1 h2 =>
      cases h2 with
      | cons r2 h2 =>
        cases h2
        refine ⟨_, _, rfl, h1, rfl, _, _, rfl, _, _, rfl, rfl, Same.refl _, ?_, ?_⟩
        · show (((((σ.set j2 none).set j1 none).set j1 _).set j2 _).set j2 none).set j1 none = (σ.set j2 none).set j1 none
          rw [List.set_set, List.set_set, List.set_comm _ _ hne.symm, List.set_set, List.set_comm _ _ hne, List.set_set]
        · show EnvR X.K ι H ((((σ.set j2 none).set j1 none).set j1 _).set j2 _) _
          rw [List.set_set, List.set_comm _ _ hne, List.set_set, List.set_comm _ _ hne.symm]
          exact (g.setIm r1).setIm r2
theorem wtb_nil {H : Hp} : WTb X scope [] σ H fun b H' => Same H H' ∧ b = true := fun s0 H0 C cl fp pins s I => pts_nil.run pins s σ H _ I ⟨Same.refl _, rfl⟩
theorem wtb_one {c : Expr} {q : Bool} (h : ∀ s0 H0 C cl fp, Et (BX X scope s0 H0 C cl fp) ι Γ c q) {H : Hp} (g : EnvR X.K ι H σ Γ) : WTb X scope [c] σ H fun b H' => Same H H' ∧ b = q := fun s0 H0 C cl fp pins s I => (pts_one (pt_wt _ c)).run pins s σ H _ I (h s0 H0 C cl fp σ H g)
theorem lc1 {α : Type} {xs : List α} {c : α → D} {g : α → D} {x : Str} (S : Sx X sc N) (j : Nat) (hi : Ei X ι Γ (.Name x px) it ds) (hd : ds = xs.map c) (hN : N[j]? = some x) (hx : (relS scope sc).names.lookup x = some .local) (hl : j < Γ.length)
    (he : ∀ y ∈ xs, ∀ s0 H0 C cl fp, Sx (BX X scope s0 H0 C cl fp) (relS scope sc) N → Ep (BX X scope s0 H0 C cl fp) ι (Γ.set j (.im (c y))) elt (.im (g y))) (hz : xs.length ≤ sizeLine) : LcOk X ι Γ (.Name x px) it elt [] scope [(x, j)] (xs.map g) := by
  have h := lc_ok (scope := scope) (elt := elt) (own := [(x, j)]) (ifs := []) (f := fun _ => true) (g := g) hi hd (fun y => Γ.set j (.im (c y))) (fun y _ => ebt_name S j hN hx hl) (fun y _ σ H _ => wtb_nil) (fun y hy _ s0 H0 C cl fp => he y hy s0 H0 C cl fp S.blk) hz
  rwa [List.filter_eq_self.mpr fun _ _ => rfl] at h
theorem lc1f {α : Type} {xs : List α} {c : α → D} {f : α → Bool} {g : α → D} {x : Str} {t : Expr} (S : Sx X sc N) (j : Nat) (hi : Ei X ι Γ (.Name x px) it ds) (hd : ds = xs.map c) (hN : N[j]? = some x) (hx : (relS scope sc).names.lookup x = some .local) (hl : j < Γ.length)
    (ht : ∀ y ∈ xs, ∀ s0 H0 C cl fp, Sx (BX X scope s0 H0 C cl fp) (relS scope sc) N → Et (BX X scope s0 H0 C cl fp) ι (Γ.set j (.im (c y))) t (f y))
    (he : ∀ y ∈ xs, f y = true → ∀ s0 H0 C cl fp, Sx (BX X scope s0 H0 C cl fp) (relS scope sc) N → Ep (BX X scope s0 H0 C cl fp) ι (Γ.set j (.im (c y))) elt (.im (g y))) (hz : xs.length ≤ sizeLine) : LcOk X ι Γ (.Name x px) it elt [t] scope [(x, j)] ((xs.filter f).map g) :=
  lc_ok (scope := scope) (elt := elt) (own := [(x, j)]) (ifs := [t]) (f := f) (g := g) hi hd (fun y => Γ.set j (.im (c y))) (fun y _ => ebt_name S j hN hx hl) (fun y hy σ H gr => wtb_one (fun s0 H0 C cl fp => ht y hy s0 H0 C cl fp S.blk) gr) (fun y hy hf s0 H0 C cl fp => he y hy hf s0 H0 C cl fp S.blk) hz
theorem lc2 {α : Type} {xs : List α} {c1 c2 : α → D} {g : α → D} {x1 x2 : Str} {p1 p2 : Pos} {k : Nat} (S : Sx X sc N) (j1 j2 : Nat) (hi : Ei X ι Γ (.Tuple [.Name x1 p1, .Name x2 p2] k px) it ds) (hd : ds = xs.map fun a => .tup [c1 a, c2 a]) (hN1 : N[j1]? = some x1) (hN2 : N[j2]? = some x2) (hx1 : (relS scope sc).names.lookup x1 = some .local) (hx2 : (relS scope sc).names.lookup x2 = some .local) (hne : j1 ≠ j2)
    (he : ∀ y ∈ xs, ∀ s0 H0 C cl fp, Sx (BX X scope s0 H0 C cl fp) (relS scope sc) N → Ep (BX X scope s0 H0 C cl fp) ι ((Γ.set j1 (.im (c1 y))).set j2 (.im (c2 y))) elt (.im (g y))) (hz : xs.length ≤ sizeLine) : LcOk X ι Γ (.Tuple [.Name x1 p1, .Name x2 p2] k px) it elt [] scope [(x1, j1), (x2, j2)] (xs.map g) := by
  have h := lc_ok (scope := scope) (elt := elt) (own := [(x1, j1), (x2, j2)]) (ifs := []) (f := fun _ => true) (g := g) hi hd (fun y => (Γ.set j1 (.im (c1 y))).set j2 (.im (c2 y))) (fun y _ => ebt_two S j1 j2 hN1 hN2 hx1 hx2 hne) (fun y _ σ H _ => wtb_nil) (fun y hy _ s0 H0 C cl fp => he y hy s0 H0 C cl fp S.blk) hz
  rwa [List.filter_eq_self.mpr fun _ _ => rfl] at h
end
end DL
/-! DL, part h: operators, calls and methods by values. -/
namespace DL
open PySem PySem.Spec L2

/-- read as a list; as a tuple; as either -/
inductive LstR (ds : List D) : R → Prop
  | im : LstR ds (.im (.lst ds))
  | vo : LstR ds (.vo (.lst ds))
  | ow : LstR ds (.ow (.lst ds))
inductive SeqR (ds : List D) : R → Prop
  | im : SeqR ds (.im (.lst ds))
  | vo : SeqR ds (.vo (.lst ds))
  | ow : SeqR ds (.ow (.lst ds))
  | tup : SeqR ds (.im (.tup ds))
  | ks : SeqR ds (.im (.klst ds))
inductive LsqR (ds : List D) : R → Prop
  | l {r : R} : LstR ds r → LsqR ds r
  | ks : LsqR ds (.im (.klst ds))
section
variable {X : Cx} {ι : Addr → Nat → Prop} {K : PySem.W.Frag} {H : Hp} {r ra rb : R} {v : V} {ds es : List D} {i j : Int}
theorem RV.lst (h : RV K ι H r v) (l : LstR ds r) : ∃ a vs, v = .ref a ∧ Rd H a (.lst vs) ∧ Reps K ι H ds vs := by
  cases l with
  | im => cases h with | lst h1 h2 => exact ⟨_, _, rfl, h1.rd, h2⟩
  | vo => obtain ⟨p, e, vs, h1, h2⟩ := h; exact ⟨p, vs, e, .inl h1, h2⟩
  | ow => obtain ⟨p, e, vs, h1, h2⟩ := h; exact ⟨p, vs, e, .inl h1, h2⟩
theorem RV.tup (h : RV K ι H (.im (.tup ds)) v) : ∃ a vs, v = .ref a ∧ SqT K H a vs ∧ Reps K ι H ds vs := by
  cases h with | tup h1 h2 => exact ⟨_, _, rfl, h1, h2⟩
theorem RV.seq (h : RV K ι H r v) (l : SeqR ds r) : ∃ a vs, v = .ref a ∧ (SqL K H a vs ∨ SqT K H a vs) ∧ Reps K ι H ds vs := by
  cases l with
  | im => obtain ⟨a, vs, e, h1, h2⟩ := h.lst .im; exact ⟨a, vs, e, .inl (.inl h1), h2⟩
  | vo => obtain ⟨a, vs, e, h1, h2⟩ := h.lst .vo; exact ⟨a, vs, e, .inl (.inl h1), h2⟩
  | ow => obtain ⟨a, vs, e, h1, h2⟩ := h.lst .ow; exact ⟨a, vs, e, .inl (.inl h1), h2⟩
  | tup => obtain ⟨a, vs, e, h1, h2⟩ := h.tup; exact ⟨a, vs, e, .inr h1, h2⟩
  | ks => cases h with | klst h1 h2 => exact ⟨_, _, rfl, .inl h1.sq, h2⟩
theorem RV.lsq (h : RV K ι H r v) (l : LsqR ds r) : ∃ a vs, v = .ref a ∧ SqL K H a vs ∧ Reps K ι H ds vs := by
  cases l with
  | l q => obtain ⟨a, vs, e, h1, h2⟩ := h.lst q; exact ⟨a, vs, e, .inl h1, h2⟩
  | ks => cases h with | klst h1 h2 => exact ⟨_, _, rfl, h1.sq, h2⟩
theorem RV.int (h : RV K ι H (.im (.int i)) v) : v = .int i := by cases h; rfl
theorem RV.str {x : Str} (h : RV K ι H (.im (.str x)) v) : v = .str x := by cases h; rfl
theorem RV.bl {x : Bool} (h : RV K ι H (.im (.bl x)) v) : v = .bl x := by cases h; rfl
theorem RV.non (h : RV K ι H (.im .non) v) : v = .non := by cases h; rfl
/-- a new list, a new tuple -/
theorem new_lst {Q : VK} {vs : List V} (rs : Reps K ι H ds vs) (q : ∀ v H', Same H H' → ROk K ι H H' (.ow (.lst ds)) v → Q v H') : ∀ p, H p = none → Q (.ref p) (upd H p (.lst vs)) := fun p np =>
  q _ _ (same_new np) ⟨p, rfl, np, vs, upd_same, rs.mono (same_new np).kp⟩
theorem new_tup {Q : VK} {vs : List V} (rs : Reps K ι H ds vs) (q : ∀ v H', Same H H' → ROk K ι H H' (.im (.tup ds)) v → Q v H') : ∀ p, H p = none → Q (.ref p) (upd H p (.tup vs)) := fun p np =>
  q _ _ (same_new np) (.tup (SqT.of upd_same) (rs.mono (same_new np).kp))

/-! ### numbers -/
theorem bin_add : OpOk X ι (binaryOp .Add) (.im (.int i)) (.im (.int j)) (.im (.int (i + j))) := ⟨_, op_add, fun H x y Q h1 h2 q => ⟨i, j, h1.int, h2.int, q _ H (Same.refl _) (.int _)⟩⟩
theorem bin_sub : OpOk X ι (binaryOp .Sub) (.im (.int i)) (.im (.int j)) (.im (.int (i - j))) := ⟨_, op_sub, fun H x y Q h1 h2 q => ⟨i, j, h1.int, h2.int, q _ H (Same.refl _) (.int _)⟩⟩
theorem bin_mul (h : CMul i j) : OpOk X ι (binaryOp .Mult) (.im (.int i)) (.im (.int j)) (.im (.int (i * j))) := ⟨_, op_mul, fun H x y Q h1 h2 q => ⟨i, j, h1.int, h2.int, h, q _ H (Same.refl _) (.int _)⟩⟩
theorem bin_mulW (h : CMulW i j) : OpOk X ι (binaryOp .Mult) (.im (.int i)) (.im (.int j)) (.im (.int (i * j))) := ⟨_, op_mulW, fun H x y Q h1 h2 q => ⟨i, j, h1.int, h2.int, h, q _ H (Same.refl _) (.int _)⟩⟩
theorem bin_mod (h : 0 < j) : OpOk X ι (binaryOp .Mod) (.im (.int i)) (.im (.int j)) (.im (.int (i % j))) := ⟨_, op_mod, fun H x y Q h1 h2 q => ⟨i, j, h1.int, h2.int, h, q _ H (Same.refl _) (.int _)⟩⟩
theorem bin_fdiv (h : CDivW i j) : OpOk X ι (binaryOp .FloorDiv) (.im (.int i)) (.im (.int j)) (.im (.int (i / j))) := ⟨_, op_fdivW, fun H x y Q h1 h2 q => ⟨i, j, h1.int, h2.int, h, q _ H (Same.refl _) (.int _)⟩⟩
theorem bin_pow (h : CPow i j) : OpOk X ι (binaryOp .Pow) (.im (.int i)) (.im (.int j)) (.im (.int (i ^ j.toNat))) := ⟨_, op_pow, fun H x y Q h1 h2 q => ⟨i, j, h1.int, h2.int, h, q _ H (Same.refl _) (.int _)⟩⟩
theorem cmp_lt : OpOk X ι (compareOp .Lt) (.im (.int i)) (.im (.int j)) (.im (.bl (decide (i < j)))) := ⟨_, op_lt, fun H x y Q h1 h2 q => ⟨i, j, h1.int, h2.int, q _ H (Same.refl _) (.bl _)⟩⟩
theorem cmp_le : OpOk X ι (compareOp .LtE) (.im (.int i)) (.im (.int j)) (.im (.bl (decide (i ≤ j)))) := ⟨_, op_le, fun H x y Q h1 h2 q => ⟨i, j, h1.int, h2.int, q _ H (Same.refl _) (.bl _)⟩⟩
theorem cmp_gt : OpOk X ι (compareOp .Gt) (.im (.int i)) (.im (.int j)) (.im (.bl (decide (j < i)))) := ⟨_, op_gt, fun H x y Q h1 h2 q => ⟨i, j, h1.int, h2.int, q _ H (Same.refl _) (.bl _)⟩⟩
theorem cmp_ge : OpOk X ι (compareOp .GtE) (.im (.int i)) (.im (.int j)) (.im (.bl (decide (j ≤ i)))) := ⟨_, op_ge, fun H x y Q h1 h2 q => ⟨i, j, h1.int, h2.int, q _ H (Same.refl _) (.bl _)⟩⟩
theorem dec_V {α : Type} {c : α → V} [DecidableEq α] (hc : ∀ a b, c a = c b → a = b) (a b : α) : decide (c a = c b) = decide (a = b) := by
  by_cases h : a = b
  · subst h; simp
  · rw [decide_eq_false h, decide_eq_false fun z => h (hc _ _ z)]
theorem cmp_eq_int : OpOk X ι (compareOp .Eq) (.im (.int i)) (.im (.int j)) (.im (.bl (decide (i = j)))) := ⟨_, op_eq, fun H x y Q h1 h2 q => by
  rw [h1.int, h2.int]; exact ⟨rfl, by rw [dec_V (c := V.int) (fun _ _ h => V.int.inj h)]; exact q _ H (Same.refl _) (.bl _)⟩⟩
theorem cmp_ne_int : OpOk X ι (compareOp .NotEq) (.im (.int i)) (.im (.int j)) (.im (.bl (!decide (i = j)))) := ⟨_, op_ne, fun H x y Q h1 h2 q => by
  rw [h1.int, h2.int]; exact ⟨rfl, by rw [dec_V (c := V.int) (fun _ _ h => V.int.inj h)]; exact q _ H (Same.refl _) (.bl _)⟩⟩
theorem cmp_eq_str {x y : Str} : OpOk X ι (compareOp .Eq) (.im (.str x)) (.im (.str y)) (.im (.bl (decide (x = y)))) := ⟨_, op_eq, fun H a b Q h1 h2 q => by
  rw [h1.str, h2.str]; exact ⟨rfl, by rw [dec_V (c := V.str) (fun _ _ h => V.str.inj h)]; exact q _ H (Same.refl _) (.bl _)⟩⟩
theorem cmp_ne_str {x y : Str} : OpOk X ι (compareOp .NotEq) (.im (.str x)) (.im (.str y)) (.im (.bl (!decide (x = y)))) := ⟨_, op_ne, fun H a b Q h1 h2 q => by
  rw [h1.str, h2.str]; exact ⟨rfl, by rw [dec_V (c := V.str) (fun _ _ h => V.str.inj h)]; exact q _ H (Same.refl _) (.bl _)⟩⟩
theorem cmp_eq_bl {x y : Bool} : OpOk X ι (compareOp .Eq) (.im (.bl x)) (.im (.bl y)) (.im (.bl (decide (x = y)))) := ⟨_, op_eq, fun H a b Q h1 h2 q => by
  rw [h1.bl, h2.bl]; exact ⟨rfl, by rw [dec_V (c := V.bl) (fun _ _ h => V.bl.inj h)]; exact q _ H (Same.refl _) (.bl _)⟩⟩
theorem cmp_ne_bl {x y : Bool} : OpOk X ι (compareOp .NotEq) (.im (.bl x)) (.im (.bl y)) (.im (.bl (!decide (x = y)))) := ⟨_, op_ne, fun H a b Q h1 h2 q => by
  rw [h1.bl, h2.bl]; exact ⟨rfl, by rw [dec_V (c := V.bl) (fun _ _ h => V.bl.inj h)]; exact q _ H (Same.refl _) (.bl _)⟩⟩
/-- is None -/
def isNon : R → Bool
  | .im .non => true
  | _ => false
theorem isNon_of (h : RV K ι H r v) : decide (v = .non) = isNon r := by
  cases r with
  | im d => cases h <;> simp [isNon]
  | ow m => obtain ⟨p, e, _⟩ := h; subst e; simp [isNon]
  | vo m => obtain ⟨p, e, _⟩ := h; subst e; simp [isNon]
theorem cmp_is : OpOk X ι (compareOp .Is) r (.im .non) (.im (.bl (isNon r))) := ⟨_, op_isN, fun H x y Q h1 h2 q => ⟨h2.non, by rw [isNon_of h1]; exact q _ H (Same.refl _) (.bl _)⟩⟩
theorem cmp_isnot : OpOk X ι (compareOp .IsNot) r (.im .non) (.im (.bl (!isNon r))) := ⟨_, op_notN, fun H x y Q h1 h2 q => ⟨h2.non, by rw [isNon_of h1]; exact q _ H (Same.refl _) (.bl _)⟩⟩

/-! ### texts -/
theorem bin_add_str {x y : Str} (h : x.length + y.length ≤ sizeLine) : OpOk X ι (binaryOp .Add) (.im (.str x)) (.im (.str y)) (.im (.str (x ++ y))) := ⟨_, op_add_str, fun H a b Q h1 h2 q => ⟨x, y, h1.str, h2.str, h, q _ H (Same.refl _) (.str _)⟩⟩
theorem cmp_in_sign {c : Nat} {z : Str} : OpOk X ι (compareOp .In) (.im (.str ⟨#[c]⟩)) (.im (.str z)) (.im (.bl (decide (c ∈ z.cps.toList)))) := ⟨_, op_in_sign, fun H x y Q h1 h2 q => ⟨c, z, h1.str, h2.str, q _ H (Same.refl _) (.bl _)⟩⟩

/-! ### lists and tuples -/
/-- list + list, any that can be read -/
theorem op_catR : OpR X (binaryOp .Add) (fun x y H Q => ∃ l b xs zs, x = .ref l ∧ y = .ref b ∧ Rd H l (.lst xs) ∧ Rd H b (.lst zs) ∧ xs.length + zs.length ≤ sizeLine ∧ ∀ p, H p = none → Q (.ref p) (upd H p (.lst (xs ++ zs)))) := by
  rintro pins s σ H x y v u Q I rx ry ⟨l, b, xs, zs, rfl, rfl, hl, hb, hz, q⟩
  cases rx; cases ry
  obtain ⟨z1, its1, n1, r1, e1⟩ := hl.ok I.hok
  obtain ⟨z2, its2, n2, r2, e2⟩ := hb.ok I.hok
  have l1 := r1.length
  have l2 := r2.length
  refine PySem.P.add_list e1 e2 ?_ (by simp only [List.size_toArray]; omega)
  have ea : its1.toArray ++ its2.toArray = (its1 ++ its2).toArray := List.append_toArray ..
  rw [ea]
  exact ⟨.ref s.heap.objs.size, _, I.lnew (t' := s.toks) (r1.append r2) (by rw [List.length_append]; exact hz), rfl, q _ I.fresh⟩
theorem bin_cat (la : LstR ds ra) (lb : LstR es rb) (h : ds.length + es.length ≤ sizeLine) : OpOk X ι (binaryOp .Add) ra rb (.ow (.lst (ds ++ es))) := ⟨_, op_catR, fun H x y Q h1 h2 q => by
  obtain ⟨a, vs, e1, x1, x2⟩ := h1.lst la
  obtain ⟨b, us, e2, y1, y2⟩ := h2.lst lb
  exact ⟨a, b, vs, us, e1, e2, x1, y1, by rw [x2.length, y2.length]; exact h, new_lst (x2.append y2) q⟩⟩
theorem bin_catT (h : ds.length + es.length ≤ sizeLine) : OpOk X ι (binaryOp .Add) (.im (.tup ds)) (.im (.tup es)) (.im (.tup (ds ++ es))) := ⟨_, op_catA, fun H x y Q h1 h2 q => by
  obtain ⟨a, vs, e1, x1, x2⟩ := h1.tup
  obtain ⟨b, us, e2, y1, y2⟩ := h2.tup
  refine ⟨a, b, vs, us, e1, e2, x1, y1, by rw [x2.length, y2.length]; exact h, fun z => ?_, fun _ z => ?_, fun _ _ => new_tup (x2.append y2) q⟩
  · subst z; cases x2; exact q _ H (Same.refl _) (.tup y1 y2)
  · subst z; cases y2; rw [List.append_nil] at q; exact q _ H (Same.refl _) (.tup x1 x2)⟩
/-- list * int -/
theorem op_repR : OpR X (binaryOp .Mult) (fun x y H Q => ∃ l k xs, x = .ref l ∧ y = .int k ∧ Rd H l (.lst xs) ∧ -(2 ^ 63) ≤ k ∧ k < 2 ^ 63 ∧ xs.length * k.toNat ≤ sizeLine ∧ ∀ p, H p = none → Q (.ref p) (upd H p (.lst (List.replicate k.toNat xs).flatten))) := by
  intro pins s σ H x y v u Q I rx ry h
  obtain ⟨l, k, xs, rfl, rfl, hH, h1, h2, hz, q⟩ := h
  cases rx
  obtain ⟨t, rfl⟩ := ry
  obtain ⟨z, its, n, r, e⟩ := hH.ok I.hok
  have hl := r.length
  have hlen : its.toArray.size * k.toNat ≤ sizeLine := by rw [List.size_toArray, ← hl]; exact hz
  have hcap : ¬ its.toArray.size * k.toNat > (2 ^ 63 - 1) / 8 := by
    have : (sizeLine : Nat) ≤ (2 ^ 63 - 1) / 8 := by decide
    omega
  have hfit : ¬ (!Builtin.List.listFitsIndex k) = true := by
    rw [fitsIndex_both h1 h2]
    exact Bool.false_ne_true
  have hlong : ¬ Builtin.List.listTooLong (its.toArray.size * k.toNat) = true := by
    rw [notLongL hlen]
    exact Bool.false_ne_true
  have hnew : List.foldl (fun x1 x2 => x1 ++ x2) #[] (List.replicate (if its.toArray.isEmpty = true then 0 else k.toNat) its.toArray) = (List.replicate k.toNat its).flatten.toArray := by
    have f0 : ∀ m : Nat, List.foldl (fun x1 x2 => x1 ++ x2) #[] (List.replicate m its.toArray) = (List.replicate m its).flatten.toArray := fun m => by
      have := foldl_rep its m []
      rw [List.nil_append] at this
      exact this
    rw [f0]
    cases its with
    | nil => simp
    | cons a r' => rw [if_neg (by simp)]
  refine wpAny_binaryOp_repeat_ref (T := "list") (U := "int") (by decide) ⟨_, e, rfl⟩ (fun s' => typeIs_int s' k t) noFill_list_mul F.fills_int_mul F.slot_int_rmul repeat_list F.slot_int_index.lookup
    (call_meets F.slot_int_rmul (typeIs_int s k t) F.entry_int_rmul (F.args_int_rmul_2 _ _) (int___rmul___int_list k t l its.toArray n)
      ⟨e, rfl, ⟨_, e, rfl⟩, call_meets F.slot_list_mul ⟨_, e, rfl⟩ F.entry_list_mul (F.args_list_mul_2 _ _) (AutoListH.list___mul___list_int_3 l its.toArray n k t hfit hcap hlong) ⟨e, ?_⟩⟩)
  rw [hnew]
  exact ⟨.ref _, _, I.lnew (t' := s.toks) (r.rep k.toNat) (by rw [PyProof.Rows.lm_len_rep_flat, Nat.mul_comm]; exact hz), rfl, q _ I.fresh⟩
theorem bin_repL {n : Int} (la : LstR ds ra) (hn : 0 ≤ n) (h : ds.length * n.toNat ≤ sizeLine) (hb : n < 2 ^ 31) : OpOk X ι (binaryOp .Mult) ra (.im (.int n)) (.ow (.lst (List.replicate n.toNat ds).flatten)) := ⟨_, op_repR, fun H x y Q h1 h2 q => by
  obtain ⟨a, vs, e1, x1, x2⟩ := h1.lst la
  exact ⟨a, n, vs, e1, h2.int, x1, by omega, by omega, by rw [x2.length]; exact h, new_lst (x2.rep _) q⟩⟩
/-- tuple * int -/
theorem tuple_mul1 (l : Addr) (items : Array Value) (n : Nat) (dd : Option Addr) (sl : Array (Option Value)) (u : Tok) :
    Meets (Builtin.«tuple.__mul__» ⟨[.ref l, .int 1 u], []⟩) (fun _ R s => s.heap.get? l = some { cls := .type "tuple", dict := dd, data := .seq items n, slots := sl } ∧ R (.ok (.ret (Value.ref l))) s) :=
  .of_wp fun prog w A R s h => by
    obtain ⟨hp, g, d, tk, os⟩ := s
    obtain ⟨hl, h⟩ := h
    have f1 := AutoSeq1.idx_int
    have c1 : (items.isEmpty || (1 : Int) == 1) = true := by rw [Bool.or_eq_true]; exact .inr rfl
    wp_walk using wpAny_loadPart' hl
    repeat (first
      | (refine wpAny_ite_false (decide_eq_false (by decide)) ?_; wp_walk using wpAny_loadPart' hl)
      | (refine wpAny_ite_true (decide_eq_true c1) ?_; wp_walk using wpAny_loadPart' hl))
    exact ⟨_, rfl, h⟩
theorem op_repT1 : OpR X (binaryOp .Mult) (fun x y H Q => ∃ l xs, x = .ref l ∧ y = .int 1 ∧ SqT X.K H l xs ∧ Q (.ref l) H) := by
  intro pins s σ H x y v u Q I rx ry h
  obtain ⟨l, xs, rfl, rfl, hT, q⟩ := h
  cases rx
  obtain ⟨t, rfl⟩ := ry
  obtain ⟨its, r, ⟨⟨cls, dd, data, sl⟩, ho, hc, n, hd⟩, hs⟩ := I.tuple hT
  simp only at hc hd
  subst hc hd
  refine wpAny_binaryOp_repeat_ref (T := "tuple") (U := "int") (by decide) ⟨_, ho, rfl⟩ (fun s' => typeIs_int s' 1 t) noFill_tuple_mul F.fills_int_mul F.slot_int_rmul repeat_tuple F.slot_int_index.lookup
    (call_meets F.slot_int_rmul (typeIs_int s 1 t) F.entry_int_rmul (F.args_int_rmul_2 _ _) (int_rmul_tuple 1 t l its.toArray n dd sl)
      ⟨ho, rfl, ⟨_, ho, rfl⟩, call_meets F.slot_tuple_mul ⟨_, ho, rfl⟩ F.entry_tuple_mul (F.args_tuple_mul_2 _ _) (tuple_mul1 l its.toArray n dd sl t) ⟨ho, ?_⟩⟩)
  exact ⟨.ref l, _, I, rfl, q⟩
theorem bin_repT {n : Int} (h1 : 1 ≤ n) (h2 : n ≤ 1000) (h : ds.length ≤ 1000) (hd : ds ≠ []) : OpOk X ι (binaryOp .Mult) (.im (.tup ds)) (.im (.int n)) (.im (.tup (List.replicate n.toNat ds).flatten)) := by
  by_cases e : n = 1
  · subst e
    refine ⟨_, op_repT1, fun H x y Q h1 h2 q => ?_⟩
    obtain ⟨a, vs, e1, x1, x2⟩ := h1.tup
    refine ⟨a, vs, e1, h2.int, x1, q _ H (Same.refl _) ?_⟩
    have : (List.replicate (1 : Int).toNat ds).flatten = ds := by simp
    rw [this]
    exact .tup x1 x2
  · refine ⟨_, op_repT, fun H x y Q h3 h4 q => ?_⟩
    obtain ⟨a, vs, e1, x1, x2⟩ := h3.tup
    refine ⟨a, n, vs, e1, h4.int, x1, fun z => ?_, by omega, h2, by rw [x2.length]; exact h, new_tup (x2.rep _) q⟩
    subst z; cases x2; exact hd rfl

/-! ### items, slices -/
def ixD (ds : List D) (i : Int) : Option D := atI ds i
theorem Reps.at {vs : List V} {d : D} (h : Reps K ι H ds vs) (e : atI ds i = some d) : ∃ v, atI vs i = some v ∧ Rep K ι H d v := by
  unfold atI at e ⊢
  rw [h.length]
  cases q : ixN ds.length i with
  | none => rw [q] at e; cases e
  | some j => rw [q] at e; exact h.get e
theorem ix_lst {d : D} (la : LsqR ds ra) (e : atI ds i = some d) : IxOk X ι ra (.im (.int i)) (.im d) := ⟨_, ix_list, fun H x y Q h1 h2 q => by
  obtain ⟨a, vs, e1, x1, x2⟩ := h1.lsq la
  obtain ⟨v, e3, r⟩ := x2.at e
  exact ⟨a, vs, i, v, e1, h2.int, x1, e3, q _ H (Same.refl _) r⟩⟩
theorem ix_tupD {d : D} (e : atI ds i = some d) : IxOk X ι (.im (.tup ds)) (.im (.int i)) (.im d) := ⟨_, ix_tup, fun H x y Q h1 h2 q => by
  obtain ⟨a, vs, e1, x1, x2⟩ := h1.tup
  obtain ⟨v, e3, r⟩ := x2.at e
  exact ⟨a, vs, i, v, e1, h2.int, x1, e3, q _ H (Same.refl _) r⟩⟩
theorem ix_strD {z : Str} {c : Nat} (h : z.length ≤ sizeLine) (e : atI z.cps.toList i = some c) : IxOk X ι (.im (.str z)) (.im (.int i)) (.im (.str ⟨#[c]⟩)) := ⟨_, ix_str, fun H x y Q h1 h2 q => ⟨z, i, c, h1.str, h2.int, h, e, q _ H (Same.refl _) (.str _)⟩⟩
def cutD (ds : List D) (lo hi : Option Int) : List D := (ds.drop (HT.sIx ds.length 0 lo)).take (HT.sIx ds.length ds.length hi - HT.sIx ds.length 0 lo)
theorem Reps.cut {vs : List V} {lo hi : Option Int} (h : Reps K ι H ds vs) : Reps K ι H (cutD ds lo hi) (cutV vs lo hi) := by
  unfold cutD cutV
  rw [h.length]
  exact (h.drop _).take _
theorem sl_lst {lo hi : Option Int} (la : LsqR ds ra) : SlOk X ι ra lo hi (.ow (.lst (cutD ds lo hi))) := ⟨_, sl_list, fun H x Q h1 q => by
  obtain ⟨a, vs, e1, x1, x2⟩ := h1.lsq la
  exact ⟨a, vs, e1, x1, new_lst x2.cut q⟩⟩
theorem sl_tupD {lo hi : Option Int} : SlOk X ι (.im (.tup ds)) lo hi (.im (.tup (cutD ds lo hi))) := ⟨_, sl_tupA, fun H x Q h1 q => by
  obtain ⟨a, vs, e1, x1, x2⟩ := h1.tup
  refine ⟨a, vs, e1, x1, fun ⟨z1, z2⟩ => ?_, fun _ => new_tup x2.cut q⟩
  refine q _ H (Same.refl _) ?_
  have e : cutD ds lo hi = ds := by
    unfold cutD
    rw [← x2.length, z1, z2, x2.length]
    simp
  rw [e]
  exact .tup x1 x2⟩

theorem sl_strD {z : Str} {lo hi : Option Int} (hz : z.length ≤ sizeLine) : SlOk X ι (.im (.str z)) lo hi (.im (.str (cutS z lo hi))) := ⟨_, sl_str, fun H x Q h1 q => ⟨z, h1.str, hz, q _ H (Same.refl _) (.str _)⟩⟩

/-! ### built-in functions -/
theorem c_len_seq (l : SeqR ds ra) : CallOk X ι (.builtin "len") [ra] (.im (.int ds.length)) := ⟨_, call_len_seq, fun H vs Q h q => by
  cases h with
  | cons h t =>
    cases t
    obtain ⟨a, us, e, x1, x2⟩ := h.seq l
    subst e
    exact ⟨a, us, rfl, x1, by rw [x2.length]; exact q _ H (Same.refl _) (.int _)⟩⟩
theorem c_len_str {z : Str} (hz : z.length ≤ sizeLine) : CallOk X ι (.builtin "len") [.im (.str z)] (.im (.int z.length)) := ⟨_, call_len_str, fun H vs Q h q => by
  cases h with
  | cons h t => cases t; exact ⟨z, by rw [h.str], hz, q _ H (Same.refl _) (.int _)⟩⟩
theorem c_tuple (l : SeqR ds ra) : CallOk X ι (.type "tuple") [ra] (.im (.tup ds)) := ⟨_, call_tuple_of, fun H vs Q h q => by
  cases h with
  | cons h t =>
    cases t
    obtain ⟨a, us, e, x1, x2⟩ := h.seq l
    subst e
    rcases x1 with x1 | x1
    · exact ⟨a, us, rfl, .inl ⟨x1, new_tup x2 q⟩⟩
    · exact ⟨a, us, rfl, .inr ⟨x1, q _ H (Same.refl _) (.tup x1 x2)⟩⟩⟩
theorem c_list (l : SeqR ds ra) : CallOk X ι (.type "list") [ra] (.ow (.lst ds)) := ⟨_, call_list_of, fun H vs Q h q => by
  cases h with
  | cons h t =>
    cases t
    obtain ⟨a, us, e, x1, x2⟩ := h.seq l
    subst e
    exact ⟨a, us, rfl, x1, new_lst x2 q⟩⟩
theorem c_abs : CallOk X ι (.builtin "abs") [.im (.int i)] (.im (.int (if i < 0 then -i else i))) := ⟨_, call_abs, fun H vs Q h q => by
  cases h with
  | cons h t => cases t; exact ⟨i, by rw [h.int], q _ H (Same.refl _) (.int _)⟩⟩
theorem c_max2 (hc : X.calm = true) : CallOk X ι (.builtin "max") [.im (.int i), .im (.int j)] (.im (.int (if j > i then j else i))) := ⟨_, call_max2 hc, fun H vs Q h q => by
  cases h with
  | cons h t => cases t with | cons h' t => cases t; exact ⟨i, j, by rw [h.int, h'.int], q _ H (Same.refl _) (.int _)⟩⟩
theorem c_min2 (hc : X.calm = true) : CallOk X ι (.builtin "min") [.im (.int i), .im (.int j)] (.im (.int (if j < i then j else i))) := ⟨_, call_min2 hc, fun H vs Q h q => by
  cases h with
  | cons h t => cases t with | cons h' t => cases t; exact ⟨i, j, by rw [h.int, h'.int], q _ H (Same.refl _) (.int _)⟩⟩
theorem c_sum {ns : List Int} (hc : X.calm = true) (l : LstR (ns.map D.int) ra) : CallOk X ι (.builtin "sum") [ra] (.im (.int ns.sum)) := ⟨_, cr_sum hc, fun H vs Q h q => by
  cases h with
  | cons h t =>
    cases t
    obtain ⟨a, us, e, x1, x2⟩ := h.lst l
    subst e
    cases x2.ints
    exact ⟨a, ns, rfl, .inl x1, q _ H (Same.refl _) (.int _)⟩⟩
theorem c_all {bs : List Bool} (hc : X.calm = true) (l : LstR (bs.map D.bl) ra) : CallOk X ι (.builtin "all") [ra] (.im (.bl (bs.all id))) := ⟨_, cr_all hc, fun H vs Q h q => by
  cases h with
  | cons h t =>
    cases t
    obtain ⟨a, us, e, x1, x2⟩ := h.lst l
    subst e
    cases x2.bls
    exact ⟨a, bs, rfl, .inl x1, q _ H (Same.refl _) (.bl _)⟩⟩
theorem c_any {bs : List Bool} (hc : X.calm = true) (l : LstR (bs.map D.bl) ra) : CallOk X ι (.builtin "any") [ra] (.im (.bl (bs.any id))) := ⟨_, cr_any hc, fun H vs Q h q => by
  cases h with
  | cons h t =>
    cases t
    obtain ⟨a, us, e, x1, x2⟩ := h.lst l
    subst e
    cases x2.bls
    exact ⟨a, bs, rfl, .inl x1, q _ H (Same.refl _) (.bl _)⟩⟩
theorem c_divmod (h : CDivP i j) : CallOk X ι (.builtin "divmod") [.im (.int i), .im (.int j)] (.im (.tup [.int (i / j), .int (i % j)])) := ⟨_, call_divmodW, fun H vs Q hv q => by
  cases hv with
  | cons h1 t =>
    cases t with
    | cons h2 t =>
      cases t
      exact ⟨i, j, by rw [h1.int, h2.int], h, new_tup (.cons (.int _) (.cons (.int _) .nil)) q⟩⟩
theorem c_int_int : CallOk X ι (.type "int") [.im (.int i)] (.im (.int i)) := ⟨_, call_int1, fun H vs Q h q => by
  cases h with
  | cons h t => cases t; exact .inl ⟨i, by rw [h.int], q _ H (Same.refl _) (.int _)⟩⟩
theorem c_int_bl {b : Bool} : CallOk X ι (.type "int") [.im (.bl b)] (.im (.int (if b then 1 else 0))) := ⟨_, call_int1, fun H vs Q h q => by
  cases h with
  | cons h t => cases t; exact .inr ⟨b, by rw [h.bl], q _ H (Same.refl _) (.int _)⟩⟩
theorem c_str_int (h : i.natAbs.log2 < 1920) : CallOk X ι (.type "str") [.im (.int i)] (.im (.str (toString i))) := ⟨_, call_str_int, fun H vs Q hv q => by
  cases hv with
  | cons h1 t => cases t; exact ⟨i, by rw [h1.int], h, q _ H (Same.refl _) (.str _)⟩⟩
end
end DL
/-! DL, part x: rules that the hand layer lacks: slices backwards of tuples, tuple * 1, list * int of any list. -/
namespace DLX
open PySem PySem.Spec L2 PyProof.Rows
section
variable {prog : Program} {w : World} {A : Around} {E : Value → Shared → Prop} {s : Shared}
/-- the places of a slice backwards -/
def backLo (n : Nat) (lo hi : Option Int) : Int := (Builtin.Slice.sliceAdjust lo hi (-1) (n : Int)).1
def backN (n : Nat) (lo hi : Option Int) : Nat := Builtin.Slice.slicePlaces (Builtin.Slice.sliceAdjust lo hi (-1) (n : Int)).1 (Builtin.Slice.sliceAdjust lo hi (-1) (n : Int)).2 (-1)
def back {α : Type} (xs : List α) (lo hi : Option Int) : List α := (List.range (backN xs.length lo hi)).filterMap fun (k : Nat) => xs[(backLo xs.length lo hi + (k : Int) * (-1)).toNat]?
theorem applied_back {sl : Addr} {vl vu vk : Value} {lo hi : Option Int} {n : Nat} {Q : Int × Int × Nat → Shared → Prop} (hs : s.heap.IsSliceOf sl vl vu vk) (pl : IsPart vl lo) (pu : IsPart vu hi) (pk : IsPart vk (some (-1)))
    (h : Q (backLo n lo hi, -1, backN n lo hi) s) : wpAny (model prog w) A (Builtin.Slice.sliceApplied (.ref sl) (pure (n : Int))) Q E s := by
  obtain ⟨ob, hob, _, hf⟩ := hs
  unfold Builtin.Slice.sliceApplied Builtin.Slice.sliceFields
  refine wpAny_bind (wpAny_bind (wpAny_field hob hf (x := vl) rfl (wpAny_bind (wpAny_field hob hf (x := vu) rfl (wpAny_bind (wpAny_field hob hf (x := vk) rfl (wpAny_pure ?_)))))))
  refine wpAny_bind (HT.slicePart_ pk ?_)
  show wpAny _ _ (if (((-1 : Int)) == 0) = true then _ else _) _ _ s
  rw [if_neg (by decide)]
  exact wpAny_bind (HT.slicePart_ pl (wpAny_bind (HT.slicePart_ pu (wpAny_bind (wpAny_pure (wpAny_pure h))))))
theorem getItem_back {t sl : Addr} {items : Array Value} {vl vu vk : Value} {lo hi : Option Int} {Q : Value → Shared → Prop} (ht : IsTup s.heap t items) (hs : s.heap.IsSliceOf sl vl vu vk) (pl : IsPart vl lo) (pu : IsPart vu hi) (pk : IsPart vk (some (-1)))
    (h : Q (.ref s.heap.objs.size) { s with heap := s.heap.push { cls := .type "tuple", data := .seq (back items.toList lo hi).toArray } }) (hz : (back items.toList lo hi).length ≤ sizeLine) : wpAny (model prog w) A (getItem (.ref t) (.ref sl)) Q E s := by
  have hb : (back items.toList lo hi).toArray = ((List.range (backN items.size lo hi)).filterMap fun (k : Nat) => items[(backLo items.size lo hi + (k : Int) * (-1)).toNat]?).toArray := by
    unfold back
    simp only [Array.length_toList, Array.getElem?_toList]
  have hok : sizeOk (.seq (back items.toList lo hi).toArray) := by
    show (back items.toList lo hi).toArray.size ≤ sizeLine
    rw [List.size_toArray]; exact hz
  have hT : s.TypeIs (.ref sl) "slice" := by
    obtain ⟨ob, h1, h2, _⟩ := id hs
    exact ⟨ob, h1, h2⟩
  unfold getItem
  try with_reducible refine wpAny_holding ?_
  first | refine wpAny_bind (wpAny_pure ?_) | skip
  refine wpAny_bind (wpAny_sequenceKey ht.typeIs (by decide) ?_)
  refine wpAny_bind (wpAny_callSpecial?_slot (name := Str.ofString "__getitem__") ht.typeIs slot_tuple_getitem (wpAny_call_entry slot_tuple_getitem ht.typeIs entry_tuple_getitem ?_ (args_tuple_getitem _ _)))
  show wpAny _ _ (Builtin.Tuple.tupleItemsOf (.ref t) >>= _) _ _ s
  refine wpAny_bind (tupleItemsOf_ ht ?_)
  refine wpAny_bind (wpAny_typeOf hT ?_)
  rw [if_pos (by decide)]
  refine wpAny_bind (applied_back hs pl pu pk ?_)
  show wpAny _ _ (if (backLo items.size lo hi == 0 && (-1 : Int) == 1 && backN items.size lo hi == items.size) = true then _ else _) _ _ s
  rw [if_neg (by simp), ← hb]
  first
    | exact wpAny_bind (m := Builtin.Tuple.tupleExact _) (wpAny_newObj_type (wpAny_pure ⟨_, rfl, wpAny_pure h⟩) hok)
    | exact wpAny_bind (m := Builtin.Tuple.tupleExact _) (wpAny_newObj_type (wpAny_bind (wpAny_pure (wpAny_pure ⟨_, rfl, wpAny_pure h⟩))) hok)
    | exact wpAny_bind (wpAny_bind (m := Builtin.Tuple.tupleExact _) (wpAny_newObj_type (wpAny_pure (wpAny_pure ⟨_, rfl, wpAny_pure h⟩)) hok))
    | exact wpAny_bind (wpAny_bind (m := Builtin.Tuple.tupleExact _) (wpAny_newObj_type (wpAny_pure ⟨_, rfl, wpAny_pure h⟩) hok))
end
theorem back_length {α : Type} (xs : List α) (lo hi : Option Int) : (back xs lo hi).length ≤ backN xs.length lo hi := by
  unfold back
  exact Nat.le_trans (List.length_filterMap_le _ _) (by rw [List.length_range]; exact Nat.le_refl _)
theorem backN_le (n : Nat) (lo hi : Option Int) : backN n lo hi ≤ n := by
  unfold backN Builtin.Slice.slicePlaces Builtin.Slice.sliceAdjust
  have h1 : ((-1 : Int) < 0) := by decide
  have h2 : ¬ ((-1 : Int) > 0) := by decide
  simp only [h1, h2, if_true, if_false, Int.neg_neg, Int.ediv_one]
  cases lo <;> cases hi <;> (simp only []; split <;> omega)
section
variable {X : Cx} {e : Expr} {te : TE} {tl th : TO} {lo hi : Option Expr} {k : Nat} {p1 p2 p3 pos : Pos}
def tBack (K : PySem.W.Frag) (te : TE) (tl th : TO) : TE := fun σ H Q => te σ H fun x H1 => tl σ H1 fun l H2 => th σ H2 fun u H3 => ∃ a xs, x = .ref a ∧ SqT K H3 a xs ∧ ∀ p, H3 p = none → Q (.ref p) (upd H3 p (.tup (back xs l u)))
theorem back_vals {xs : List V} {us : List Value} (h : Vals xs us) (lo hi : Option Int) : Vals (back xs lo hi) (back us lo hi) := by
  unfold back
  rw [h.length]
  generalize List.range (backN us.length lo hi) = l
  induction l with
  | nil => exact .nil
  | cons i l ih =>
    rw [List.filterMap_cons, List.filterMap_cons]
    cases q : xs[(backLo us.length lo hi + (i : Int) * (-1)).toNat]? with
    | none =>
      have q' := Vals.none_of h q
      simp only [q']
      exact ih
    | some x =>
      obtain ⟨u, q', r⟩ := h.get q
      simp only [q']
      exact .cons r ih
/-- t[lo:hi:-1] -/
theorem pe_back (he : PE X e te) (hl : PO X lo tl) (hu : PO X hi th) : PE X (.Subscript e (.Slice lo hi (some (.UnaryOp .USub (.Constant (.int 1) k p1) p2)) p3) pos) (tBack X.K te tl th) := by
  refine ⟨fun pins s σ H Q I h => ?_⟩
  refine Subscript_ (thn (he.run pins s σ H _ I h) fun v s1 ⟨x, H1, I1, r1, q1⟩ => ?_)
  have hst : PO X (some (.UnaryOp .USub (.Constant (.int 1) k p1) p2)) (tPart (tUn (rU fun i => .int (-i)) (tC (.int 1)))) := po_some (pe_un un_neg pe_int)
  refine wpAny_Slice (thn (hl.run pins s1 σ H1 _ I1 q1) fun vl s2 ⟨l, H2, I2, pl, q2⟩ => thn (hu.run pins s2 σ H2 _ I2 q2) fun vu s3 ⟨u, H3, I3, pu, q3⟩ => ?_)
  refine thn (hst.run pins s3 σ H3 (fun o H4 => o = some (-1) ∧ H4 = H3) I3 ⟨1, rfl, -1, rfl, rfl, rfl⟩) fun vs s4 ⟨o, H4, I4, ps, eo, e4⟩ => ?_
  subst eo e4
  obtain ⟨a, xs, ex, hx, q⟩ := q3
  subst ex
  cases r1
  have I5 : Inv X pins σ H4 { s4 with heap := s4.heap.push { cls := .type "slice", data := .fields #[vl, vu, vs] } } := I4.kept (t' := s4.toks) fun b ob z => Heap.get?_push_of_some _ z
  obtain ⟨its, r, ht, hz⟩ := I5.tuple hx
  have hz' : (back its l u).length ≤ sizeLine := Nat.le_trans (back_length _ _ _) (Nat.le_trans (backN_le _ _ _) (by rw [← r.length]; exact hz))
  show wpAny (model X.prog X.w) X.A (subscriptTail e (.Slice lo hi (some (.UnaryOp .USub (.Constant (.int 1) k p1) p2)) p3) (.ref a) (.ref s4.heap.objs.size)) (EP X pins σ Q) X.xe { s4 with heap := s4.heap.push { cls := .type "slice", data := .fields #[vl, vu, vs] } }
  refine tail_any (ops := [.ref a, .ref s4.heap.objs.size]) ht.typeIs slot_tuple_getitem.lookup ?_ (by with_unfolding_all rfl)
  refine getItem_back ht (Heap.IsSliceOf.new _ vl vu vs) pl pu ps ?_ (by simpa using hz')
  refine ⟨.ref _, _, I5.laid (t' := s4.toks) (o := .tup (back xs l u)) (fun b ob z => Heap.get?_push_of_some _ z) (Nat.le_refl _) ?_, rfl, q _ (I5.hok.fresh (Nat.le_refl _))⟩
  exact ⟨by rw [(back_vals r l u).length]; exact hz', _, back_vals r l u, IsTup.new _ _⟩
end
end DLX
/-! DL, part y: the least of a list of data (tuples, texts) by Python's order. -/
namespace DLX
open PySem PySem.Spec L2 PyProof.Rows

section
variable {prog : Program} {w : World} {A : Around} {R : Result → Shared → Prop} {I : Addr} {fp wr : List Addr} {n : Nat} {P : Nat → Value → Prop} {St : Nat → Heap → Prop} {h0 : Heap}
/-- what stood at the call stands -/
abbrev Old (h0 h : Heap) : Prop := ∀ b o, h0.get? b = some o → h.get? b = some o
/-- a comparison that leans on what stood at the call -/
def CmpAt (prog : Program) (w : World) (A : Around) (h0 : Heap) (P : Nat → Value → Prop) (bt : Nat → Nat → Bool) : Prop :=
  ∀ i j vi vj (s : Shared) (Q : Value → Shared → Prop) (E : Value → Shared → Prop), Old h0 s.heap → P i vi → P j vj → Q (.bool (bt i j)) s → wpAny (model prog w) A (richCompare .Lt vi vj) Q E s
theorem min_turns (W : Walks prog w A.in1 I fp wr n P St) (hwr : ∀ b ∈ wr, h0.get? b = none) (bt : Nat → Nat → Bool) (hcmp : CmpAt prog w A.in1 h0 P bt) (S : Addr) (hSf : S ∉ fp) (hS0 : h0.get? S = none) :
    ∀ (k j : Nat) (s : Shared) (vb : Value) (c : Nat), n - (j + 1) = k → j + 1 ≤ n → Old h0 s.heap → St (j + 1) s.heap → P (argBest bt j) vb →
      s.heap.get? S = some { cls := .type "list", dict := none, data := .seq #[vb, vb] c, slots := #[] } →
      (∀ v h' tk, P (argBest bt (n - 1)) v → (∀ b o, b ∉ wr → b ≠ S → s.heap.get? b = some o → h'.get? b = some o) → R (.ok (.ret v)) { s with heap := h', toks := tk }) →
      codeAny (model prog w) A (.builtin "min.loop" ⟨[.ref I, .none, .ref S], []⟩) R s := by
  have nS : S ∉ wr := fun q => hSf (W.sub _ q)
  have nm : (toString "min" ++ toString ".loop" : String) = "min.loop" := by decide
  intro k
  induction k with
  | zero =>
    intro j s vb c hk hj old st pb hS fin
    obtain rfl : n = j + 1 := by omega
    refine codeAny_builtin F.entry_min_loop ?_
    rw [Around.under_plainId F.plain_min_loop _]
    show wpAny _ A.in1 (seqItems? (.ref S) >>= _) _ _ s
    refine wpAny_bind (wpAny_seqItems hS rfl ?_)
    show wpAny _ A.in1 (tryCatch (pyNext (.ref I)) _ >>= _) _ _ s
    refine wpAny_bind (wpAny_tryCatch (W.done s _ _ st fun h' tk kp => ?_))
    show wpAny _ A.in1 (updateSeq S (fun _ => #[]) >>= _) _ _ _
    refine wpAny_bind (wpAny_updateSeq (kp S _ nS hS) rfl (wpAny_bind (wpAny_letGo (wpAny_pure ?_))))
    exact fin vb _ tk pb fun b o hb hbS e => (Heap.get?_update_other _ _ (Ne.symm hbS)).trans (kp b o hb e)
  | succ k ih =>
    intro j s vb c hk hj old st pb hS fin
    have lt : j + 1 < n := by omega
    refine codeAny_builtin F.entry_min_loop ?_
    rw [Around.under_plainId F.plain_min_loop _]
    show wpAny _ A.in1 (seqItems? (.ref S) >>= _) _ _ s
    refine wpAny_bind (wpAny_seqItems hS rfl ?_)
    show wpAny _ A.in1 (tryCatch (pyNext (.ref I)) _ >>= _) _ _ s
    refine wpAny_bind (wpAny_tryCatch (W.item (j + 1) s _ _ lt st fun v h' tk pv st' kp => ?_))
    have hS' := kp S _ nS hS
    have old' : Old h0 h' := fun b o e => kp b o (fun q => by rw [hwr b q] at e; cases e) (old b o e)
    show wpAny _ A.in1 (tryCatch (holding [v, v] (richCompare .Lt v vb >>= _)) _ >>= _) _ _ _
    refine wpAny_bind (wpAny_tryCatch (wpAny_holding (wpAny_bind (hcmp (j + 1) (argBest bt j) v vb _ _ _ old' pv pb ?_))))
    refine wpAny_bind (wpAny_holding (wpAny_truthy_bool ?_))
    refine wpAny_bind (wpAny_letGo (wpAny_pure ?_))
    cases hb : bt (j + 1) (argBest bt j) with
    | true =>
      simp only [if_true]
      refine wpAny_bind (wpAny_updateSeq hS' rfl (wpAny_bind (wpAny_letGo ?_)))
      rw [nm]
      refine wpAny_pure ⟨plainId_quiet F.plain_min_loop _, ih (j + 1) _ v _ (by omega) lt (fun b o e => ?_) (W.frame _ _ _ st' fun b hbf o e => ?_) (by simp only [argBest, hb, if_true]; exact pv) (Heap.get?_update_self _ hS' rfl)
        fun v' h2 tk2 pv' kp2 => ?_⟩
      · exact (Heap.get?_update_other _ _ (fun q : S = b => by rw [← q, hS0] at e; cases e)).trans (old' b o e)
      · exact (Heap.get?_update_other _ _ (fun q : S = b => hSf (by rw [q]; exact hbf))).trans e
      · exact fin v' h2 tk2 pv' fun b o hbw hbS e => kp2 b o hbw hbS ((Heap.get?_update_other _ _ (Ne.symm hbS)).trans (kp b o hbw e))
    | false =>
      simp only [Bool.false_eq_true, if_false]
      refine wpAny_bind (wpAny_letGo ?_)
      rw [nm]
      refine wpAny_pure ⟨plainId_quiet F.plain_min_loop _, ih (j + 1) _ vb c (by omega) lt old' st' (by simp only [argBest, hb, Bool.false_eq_true, if_false]; exact pb) hS' fun v' h2 tk2 pv' kp2 => ?_⟩
      exact fin v' h2 tk2 pv' fun b o hbw hbS e => kp2 b o hbw hbS (kp b o hbw e)
theorem min_first (W : Walks prog w A.in1 I fp wr n P St) (hwr : ∀ b ∈ wr, h0.get? b = none) (bt : Nat → Nat → Bool) (hcmp : CmpAt prog w A.in1 h0 P bt) (S : Addr) (hSf : S ∉ fp) (hS0 : h0.get? S = none) (hn : 0 < n) {s : Shared} {c : Nat}
    (old : Old h0 s.heap) (st : St 0 s.heap) (hS : s.heap.get? S = some { cls := .type "list", dict := none, data := .seq #[] c, slots := #[] })
    (fin : ∀ v h' tk, P (argBest bt (n - 1)) v → (∀ b o, b ∉ wr → b ≠ S → s.heap.get? b = some o → h'.get? b = some o) → R (.ok (.ret v)) { s with heap := h', toks := tk }) :
    codeAny (model prog w) A (.builtin "min.loop" ⟨[.ref I, .none, .ref S], []⟩) R s := by
  have nS : S ∉ wr := fun q => hSf (W.sub _ q)
  have nm : (toString "min" ++ toString ".loop" : String) = "min.loop" := by decide
  refine codeAny_builtin F.entry_min_loop ?_
  rw [Around.under_plainId F.plain_min_loop _]
  show wpAny _ A.in1 (seqItems? (.ref S) >>= _) _ _ s
  refine wpAny_bind (wpAny_seqItems hS rfl ?_)
  show wpAny _ A.in1 (tryCatch (pyNext (.ref I)) _ >>= _) _ _ s
  refine wpAny_bind (wpAny_tryCatch (W.item 0 s _ _ hn st fun v h' tk pv st' kp => ?_))
  have hS' := kp S _ nS hS
  have old' : Old h0 h' := fun b o e => kp b o (fun q => by rw [hwr b q] at e; cases e) (old b o e)
  show wpAny _ A.in1 (updateSeq S (fun _ => #[v, v]) >>= _) _ _ _
  refine wpAny_bind (wpAny_updateSeq hS' rfl ?_)
  rw [nm]
  refine wpAny_pure ⟨plainId_quiet F.plain_min_loop _, min_turns W hwr bt hcmp S hSf hS0 _ 0 _ v _ rfl hn (fun b o e => ?_) (W.frame _ _ _ st' fun b hbf o e => ?_) pv (Heap.get?_update_self _ hS' rfl) fun v' h2 tk2 pv' kp2 => ?_⟩
  · exact (Heap.get?_update_other _ _ (fun q : S = b => by rw [← q, hS0] at e; cases e)).trans (old' b o e)
  · exact (Heap.get?_update_other _ _ (fun q : S = b => hSf (by rw [q]; exact hbf))).trans e
  · exact fin v' h2 tk2 pv' fun b o hbw hbS e => kp2 b o hbw hbS ((Heap.get?_update_other _ _ (Ne.symm hbS)).trans (kp b o hbw e))
end
section
variable {prog : Program} {w : World} {A : Around} {E : Value → Shared → Prop} {s : Shared}
theorem call_min_at {l : Addr} {items : Array Value} {bt : Nat → Nat → Bool} {Q : Value → Shared → Prop} (hh : A.handled = none) (hl : s.heap.IsList l items) (hne : 0 < items.size) (hcmp : CmpAt prog w A.in1 s.heap (fun i v => items[i]? = some v) bt)
    (h : ∀ v h' tk, items[argBest bt (items.size - 1)]? = some v → (∀ b o, s.heap.get? b = some o → h'.get? b = some o) → Q v { s with heap := h', toks := tk }) : wpAny (model prog w) A (call (.builtin "min") [.ref l]) Q E s := by
  have nm : (toString "min" ++ toString ".loop" : String) = "min.loop" := by decide
  refine call_function_tree F.kind_min F.plain_min F.entry_min (F.args_min1 _) ?_
  show wpAny _ A.in1 (Builtin.Builtins.bindParams "min" ["key", "default"] 0 ⟨[], []⟩ >>= _) _ _ s
  refine wpAny_bind (wpAny_of_eq (show Builtin.Builtins.bindParams "min" ["key", "default"] 0 ⟨[], []⟩ = pure [none, none] from rfl) ?_)
  refine wpAny_bind (wpAny_pure ?_)
  have hlt : l < s.heap.objs.size := by obtain ⟨_, e, _⟩ := hl; exact Heap.lt_size e
  refine wpAny_bind (wpAny_pyIter_list hl ?_)
  have it0 : (s.heap.push { cls := .type "list_iterator", data := .fields #[.ref l, .int 0 0] }).IsListIter s.heap.objs.size l 0 := ⟨_, Heap.get?_push_size _ rfl, rfl, rfl⟩
  have hf : ∀ b ∈ [s.heap.objs.size, l], b < (s.heap.push { cls := .type "list_iterator", data := .fields #[.ref l, .int 0 0] }).objs.size := fun b hb => by
    rw [Heap.size_push]
    simp only [List.mem_cons, List.not_mem_nil, or_false] at hb
    rcases hb with q | q
    · rw [q]; exact Nat.lt_succ_self _
    · rw [q]; exact Nat.lt_succ_of_lt hlt
  have W := Walks.list (prog := prog) (w := w) (A := A.in1) hh s.heap.objs.size l (Nat.ne_of_lt hlt) items
  refine wpAny_bind (wpAny_newObj_type ?_)
  rw [nm]
  have fresh1 : s.heap.get? s.heap.objs.size = none := Heap.get?_none_of_le (Nat.le_refl _)
  have fresh2 : s.heap.get? (s.heap.push { cls := .type "list_iterator", data := .fields #[.ref l, .int 0 0] }).objs.size = none := Heap.get?_none_of_le (by rw [Heap.size_push]; exact Nat.le_succ _)
  refine wpAny_pure ⟨plainId_quiet F.plain_min_loop _, min_first (h0 := s.heap) W (fun b hb => ?_) bt hcmp (s.heap.push { cls := .type "list_iterator", data := .fields #[.ref l, .int 0 0] }).objs.size (fun hm => Nat.lt_irrefl _ (hf _ hm)) fresh2 hne
    (fun b o e => Heap.get?_push_of_some _ (Heap.get?_push_of_some _ e)) (W.frame _ _ _ ⟨it0, hl.push _⟩ fun b _ o e => Heap.get?_push_of_some _ e) (Heap.get?_push_size _ rfl) fun v h' tk hP hk => ?_⟩
  · simp only [List.mem_singleton] at hb
    rw [hb]; exact fresh1
  · refine h v h' tk hP fun b o e => hk b o (fun hm => ?_) (fun z => ?_) (Heap.get?_push_of_some _ (Heap.get?_push_of_some _ e))
    · simp only [List.mem_singleton] at hm
      rw [hm, fresh1] at e; cases e
    · rw [z, fresh2] at e; cases e
end
/-- the place of the least, the first of these -/
def leastAt (ds : List PyData) : Nat := argBest (fun i j => PySem.W.dataLt (ds.getD i .none) (ds.getD j .none)) (ds.length - 1)
section
variable {X : Cx}
theorem readsAll_at {h : Heap} : ∀ {us : List Value} {ds : List PyData} {as : List Addr} {i : Nat} {u : Value}, ReadsAll h us ds as → us[i]? = some u → ∃ bs, Reads h u (ds.getD i .none) bs
  | _, _, _, _, _, .nil, e => by simp at e
  | _, _, _, 0, _, .cons r _, e => by simp at e; subst e; exact ⟨_, r⟩
  | _, _, _, i + 1, _, .cons _ t, e => by simpa using readsAll_at (i := i) t (by simpa using e)
theorem dpAll_length {K : PySem.W.Frag} {H : Hp} : ∀ {xs : List V} {ds : List PyData}, DpAll K H xs ds → xs.length = ds.length
  | _, _, .nil => rfl
  | _, _, .cons _ t => by rw [List.length_cons, List.length_cons, dpAll_length t]
/-- min(xs), xs a list of data that are alike -/
theorem cr_minD (hc : X.calm = true) (hu : X.A.units + 66 < cLine) : CallR X (.builtin "min") (fun vs H Q => ∃ (a : Addr) (xs : List V) (ds : List PyData) (v : V), vs = [V.ref a] ∧ Rd H a (.lst xs) ∧ DpAll X.K H xs ds ∧ (∀ i j, i < ds.length → j < ds.length → PySem.W.alike (ds.getD i .none) (ds.getD j .none) = true) ∧
    (∀ d ∈ ds, d ≠ .none ∧ d.depth ≤ 64) ∧ xs[leastAt ds]? = some v ∧ Q v H) := by
  rintro pins s σ H vs us Q I rv ⟨a, xs, ds, v, rfl, hl, hd, ha, hdd, hv, q⟩
  obtain rfl := rv.ref1
  obtain ⟨its, r, p, hz⟩ := I.list (.inl hl : SqL X.K H a xs)
  obtain ⟨as, hr⟩ := Dp.readsAll I ds xs its hd r
  have l1 := r.length
  have l2 : xs.length = ds.length := dpAll_length hd
  have lt : leastAt ds < xs.length := (List.getElem?_eq_some_iff.mp hv).1
  refine call_min_at (bt := fun i j => PySem.W.dataLt (ds.getD i .none) (ds.getD j .none)) (I.ok.hd hc) p.isList (by rw [List.size_toArray]; omega) (fun i j vi vj s' Q' E' old hi hj hq => ?_) fun u h' tk hu' hk => ?_
  · have hi' : its[i]? = some vi := by simpa using hi
    have hj' : its[j]? = some vj := by simpa using hj
    obtain ⟨b1, r1⟩ := readsAll_at hr hi'
    obtain ⟨b2, r2⟩ := readsAll_at hr hj'
    have k1 : i < ds.length := by have := (List.getElem?_eq_some_iff.mp hi').1; omega
    have k2 : j < ds.length := by have := (List.getElem?_eq_some_iff.mp hj').1; omega
    have m1 : ds.getD i .none ∈ ds := by
      rw [List.getD_eq_getElem?_getD, List.getElem?_eq_getElem k1]; exact List.getElem_mem k1
    refine PySem.W.rcLt_alike _ _ _ _ _ _ _ _ (Reads.keeps old r1) (Reads.keeps old r2) (ha i j k1 k2) (hdd _ m1).1 ?_ _ _ _ _ hq
    have := (hdd _ m1).2
    have hu2 : X.A.in1.units = X.A.units + 1 := rfl
    rw [hu2]
    omega
  · have e1 : its[leastAt ds]? = some u := by
      rw [List.size_toArray, ← l1, l2] at hu'
      unfold leastAt
      simpa using hu'
    obtain ⟨u', e2, r2⟩ := r.get hv
    rw [e1] at e2; cases e2
    exact ⟨v, H, I.kept (t' := tk) hk, r2, q⟩
end
end DLX
/-! DL, part i: lists that grow and change, methods of own classes, making of instances, fields, isinstance. -/
namespace DL
open PySem PySem.Spec L2

section
variable {X : Cx} {ι : Addr → Nat → Prop} {Γ Γ1 Γ2 Γ' : List Slot} {sc : Scope} {N : List Str} {e a b o : Expr} {es : List Expr} {pos pos' apos p px : Pos} {r ra rb rr : R} {d da db : D} {ds fsD : List D} {as : List A} {ss fs : List Slot} {m : M} {Φ : Ph} {K : PySem.W.Frag} {H : Hp}

/-! ### a slot's own list -/
/-- slot i holds the own (or lent) list ds; with the list ds' in its place the slots are Γ' -/
inductive OwnL (Γ : List Slot) (i : Nat) (ds ds' : List D) : List Slot → Prop
  | ow : Γ[i]? = some (.ow (.lst ds)) → OwnL Γ i ds ds' (Γ.set i (.ow (.lst ds')))
  | mu : Γ[i]? = some (.mu (.lst ds)) → OwnL Γ i ds ds' (Γ.set i (.mu (.lst ds')))
theorem OwnL.is {i : Nat} {ds' : List D} (h : OwnL Γ i ds ds' Γ') : (Γ[i]? = some (.ow (.lst ds)) ∨ Γ[i]? = some (.mu (.lst ds))) ∧ ((Γ[i]? = some (.ow (.lst ds)) ∧ Γ' = Γ.set i (.ow (.lst ds'))) ∨ (Γ[i]? = some (.mu (.lst ds)) ∧ Γ' = Γ.set i (.mu (.lst ds')))) := by
  cases h with
  | ow h => exact ⟨.inl h, .inl ⟨h, rfl⟩⟩
  | mu h => exact ⟨.inr h, .inr ⟨h, rfl⟩⟩
theorem EnvR.own {σ : L2.St} {i : Nat} (g : EnvR K ι H σ Γ) (h : Γ[i]? = some (.ow m) ∨ Γ[i]? = some (.mu m)) : ∃ q, σ[i]? = some (some (.ref q)) ∧ MRep K ι H q m := by
  rcases h with h | h
  all_goals
    obtain ⟨q, x, y⟩ := g.ok i _ h
    exact ⟨q, x, y⟩
/-- .. behind a change of the list -/
theorem own_lst {C : Cf} {σ : L2.St} {i : Nat} {q : Addr} {ds' : List D} {vs vs' : List V} (g : EnvOk K ι C H σ Γ) (h : OwnL Γ i ds ds' Γ') (e : σ[i]? = some (some (.ref q))) (hv : H q = some (.lst vs)) (r : Reps K ι H ds' vs') :
    EnvOk K ι C (upd H q (.lst vs')) σ Γ' ∧ FrE ι σ Γ H (upd H q (.lst vs')) := by
  obtain ⟨h1, h2⟩ := h.is
  have ni : ∀ o, H q = some o → ¬ Im ι o := fun o eo => by rw [hv] at eo; cases eo; exact fun z => z
  have kp : Kp ι H (upd H q (.lst vs')) := fun b o eo i => by
    rw [upd_ne (fun z => by subst z; exact ni o eo i)]; exact eo
  exact g.setM h1 e (fun b o ne eo => by rw [upd_ne ne]; exact eo) ni (show MRep K ι (upd H q (.lst vs')) q (.lst ds') from ⟨vs', upd_same, r.mono kp⟩) Γ' h2
theorem own_now {C : Cf} {σ : L2.St} {i : Nat} {ds' : List D} (g : EnvOk K ι C H σ Γ) (h : OwnL Γ i ds ds' Γ') : ∃ q vs, σ[i]? = some (some (.ref q)) ∧ H q = some (.lst vs) ∧ Reps K ι H ds vs := by
  obtain ⟨q, e, vs, h1, h2⟩ := g.toEnvR.own h.is.1
  exact ⟨q, vs, e, h1, h2⟩
/-- the forms of a call of a built-in's method with one argument -/
abbrev Few1 (X : Cx) (e : Expr) (p : Pos) : Prop := starEach [e] X.env = [(false, eval e X.env)]
theorem few1 {X : Cx} {e : Expr} {p : Pos} (h : Few1 X e p) : ((backTo p (starEach [e] X.env)).all (fun x => !x.1) && (backToKw p (keywordEach [] X.env)).all (fun x => x.1.isSome) && decide (([e] : List Expr).length + ([] : List Keyword).length + (if ([] : List Keyword).isEmpty then 0 else 1) < 30)) = true := by
  rw [h]; rfl
/-- x.append(e) -/
theorem st_append (S : Sx X sc N) (i : Nat) {x : Str} {ds0 : List D} (hN : N[i]? = some x) (hv : visB sc x = true) (hs : Γ[i]? = some (.ow (.lst ds0)) ∨ Γ[i]? = some (.mu (.lst ds0))) (h : Ev X ι Γ e (.im d) Γ1) (ho : OwnL Γ1 i ds (ds ++ [d]) Γ2) (hz : ds.length < sizeLine) (h' : Φ.nx Γ2)
    (hl : (apos.endLine == p.line) = true := by rfl) (hf : Few1 X e p := by rfl) : St X ι Γ (.Expr (.Call (.Attribute (.Name x px) "append" apos) [e] [] p) pos) Φ := by
  intro C σ H tk g
  obtain ⟨v1, v2, v3⟩ := vis_of hv
  obtain ⟨q0, e0, vs0, h0, _⟩ := g.toEnvR.own hs
  refine WS.of (ps_expr (pe_bm PySem.F.plainAttrs_list PySem.F.slot_list_append PySem.F.type_list_append mt_append (pe_var (i := i) (by rw [S.hN]; exact hN) (by rw [S.hsc]; exact v1) v2 v3) (pa_cons (pe_we X e) pa_nil (by rw [hf]; rfl)) (by rfl) (few1 hf) hl (by rw [hf]; rfl) (by rfl)) (by rfl)) ?_
  refine ⟨_, e0, .inl ⟨rfl, _, SqL.of h0⟩, ?_⟩
  refine (h.2 C σ H g).mono fun v H1 ⟨g1, s1, r1⟩ => ?_
  obtain ⟨q, vs, e1, h1, r⟩ := own_now g1 ho
  rw [e0] at e1; cases e1
  refine ⟨_, vs, v, rfl, rfl, h1, by rw [r.length]; exact hz, ?_⟩
  have k1 : Kp ι H1 H1 := Kp.refl
  obtain ⟨g2, s2⟩ := own_lst g1 ho e0 h1 (r.snoc r1)
  exact ⟨_, g2, s1.kp.trans s2.kp, h'⟩
/-- list.extend by any list -/
theorem mt_extendR : MtM X "list.extend" (fun x vs H Q => ∃ l b xs zs, x = .ref l ∧ vs = [.ref b] ∧ H l = some (.lst xs) ∧ Rd H b (.lst zs) ∧ xs.length + zs.length ≤ sizeLine ∧ Q .non (upd H l (.lst (xs ++ zs)))) := by
  rintro pins s σ H x vs v us Q I rx rv ⟨l, b, xs, zs, rfl, rfl, hH, hB, hz, q⟩
  cases rx
  obtain ⟨u, rfl, ru⟩ := rv.one
  cases ru
  obtain ⟨z, its, n, r, hl, e⟩ := I.lstM hH
  obtain ⟨z2, its2, n2, r2, e2⟩ := hB.ok I.hok
  have hl2 := r2.length
  have hsum : its.toArray.size + its2.toArray.size ≤ sizeLine := by simp only [List.size_toArray]; omega
  have hno : ¬ (!its.toArray.isEmpty && Builtin.List.listTooLong (its.toArray.size + its2.toArray.size)) = true := by rw [notLongL hsum, Bool.and_false]; simp
  refine call_meets F.slot_list_extend ⟨_, e, rfl⟩ F.entry_list_extend (F.args_list_extend_2 _ _) (AutoSeq1.list_extend_list_list_0 l its.toArray n b its2.toArray n2 hno (by simp only [List.size_toArray]; omega) (by omega)) ⟨e, e2, ?_⟩
  exact ⟨.non, _, I.lset (its' := its ++ its2) hH e (by simp) (r.append r2) (by rw [List.length_append]; omega), rfl, q⟩
/-- x.extend(e), e a list of its own -/
theorem st_extend (S : Sx X sc N) (i : Nat) {x : Str} {ds0 es' : List D} (hN : N[i]? = some x) (hv : visB sc x = true) (hs : Γ[i]? = some (.ow (.lst ds0)) ∨ Γ[i]? = some (.mu (.lst ds0))) (h : Ev X ι Γ e r Γ1) (hr : LstR es' r) (ho : OwnL Γ1 i ds (ds ++ es') Γ2) (hz : ds.length + es'.length ≤ sizeLine) (h' : Φ.nx Γ2)
    (hl : (apos.endLine == p.line) = true := by rfl) (hf : Few1 X e p := by rfl) : St X ι Γ (.Expr (.Call (.Attribute (.Name x px) "extend" apos) [e] [] p) pos) Φ := by
  intro C σ H tk g
  obtain ⟨v1, v2, v3⟩ := vis_of hv
  obtain ⟨q0, e0, vs0, h0, _⟩ := g.toEnvR.own hs
  refine WS.of (ps_expr (pe_bm PySem.F.plainAttrs_list PySem.F.slot_list_extend PySem.F.type_list_extend mt_extendR (pe_var (i := i) (by rw [S.hN]; exact hN) (by rw [S.hsc]; exact v1) v2 v3) (pa_cons (pe_we X e) pa_nil (by rw [hf]; rfl)) (by rfl) (few1 hf) hl (by rw [hf]; rfl) (by rfl)) (by rfl)) ?_
  refine ⟨_, e0, .inl ⟨rfl, _, SqL.of h0⟩, ?_⟩
  refine (h.2 C σ H g).mono fun v H1 ⟨g1, s1, r1⟩ => ?_
  obtain ⟨q, vs, e1, h1, rr⟩ := own_now g1 ho
  rw [e0] at e1; cases e1
  obtain ⟨b, us, eb, hb, rb⟩ := r1.rv.lst hr
  subst eb
  refine ⟨_, b, vs, us, rfl, rfl, h1, hb, by rw [rr.length, rb.length]; exact hz, ?_⟩
  obtain ⟨g2, s2⟩ := own_lst g1 ho e0 h1 (rr.append rb)
  exact ⟨_, g2, s1.kp.trans s2.kp, h'⟩
theorem ixN_of {n : Nat} {i : Int} {j : Nat} (h : ixN n i = some j) : j < n := (ixN_seq h).2.1
/-- x[i] = e -/
theorem st_setitem (S : Sx X sc N) (i : Nat) {x : Str} {k : Int} {j : Nat} (hN : N[i]? = some x) (hv : visB sc x = true) (h : Ev X ι Γ e (.im d) Γ1) (hk : Ep X ι Γ1 a (.im (.int k))) (ho : OwnL Γ1 i ds (ds.set j d) Γ2) (hj : ixN ds.length k = some j) (h' : Φ.nx Γ2)
    (hs : swapsWithSole [.Subscript (.Name x px) a pos'] e pos.line X.env = pure false := by rfl) (hw : swappedStores [.Subscript (.Name x px) a pos'] e X.env = pure none := by rfl) (h1 : (assignEach [.Subscript (.Name x px) a pos'] X.env).map (·.2) = [assign (.Subscript (.Name x px) a pos') X.env] := by rfl)
    (hq : ∀ v, assign (.Subscript (.Name x px) a pos') X.env v = (do
      let ov ← holding [v] (eval (.Name x px) X.env)
      let iv ← holding [v, ov] (eval a X.env)
      standAt pos'
      holding [v, ov, iv] (setItem ov iv v)
      release [v, ov, iv] []) := by intro _; rfl) : St X ι Γ (.Assign [.Subscript (.Name x px) a pos'] e pos) Φ := by
  intro C σ H tk g
  obtain ⟨v1, v2, v3⟩ := vis_of hv
  refine WS.of (ps_asg (pe_we X e) (pg_sub (pe_var (i := i) (by rw [S.hN]; exact hN) (by rw [S.hsc]; exact v1) v2 v3) (pe_we X a) set_list hq) hs hw h1) ?_
  refine (h.2 C σ H g).mono fun v H1 ⟨g1, s1, r1⟩ => ?_
  obtain ⟨q, vs, e1, h2, rr⟩ := own_now g1 ho
  refine ⟨_, e1, ?_⟩
  refine (hk σ H1 g1.toEnvR).mono fun y H2 ⟨s2, r2⟩ => ?_
  cases r2
  have h3 : H2 q = some (.lst vs) := s2 _ _ h2
  refine ⟨q, vs, k, j, rfl, rfl, h3, by rw [rr.length]; exact hj, ?_⟩
  obtain ⟨g2, s3⟩ := own_lst (g1.same s2) ho e1 h3 ((Reps.mono s2.kp rr).set (Rep.mono s2.kp r1) j)
  exact ⟨_, g2, (s1.kp.trans s2.kp).trans s3.kp, h'⟩
/-- x[i] as a target of several -/
theorem egk_item (S : Sx X sc N) (i : Nat) {x : Str} {k : Int} {j : Nat} (hN : N[i]? = some x) (hv : visB sc x = true) (hk : Ep X ι Γ a (.im (.int k))) (ho : OwnL Γ i ds (ds.set j d) Γ2) (hj : ixN ds.length k = some j)
    (hq : ∀ v, assign (.Subscript (.Name x px) a pos') X.env v = (do
      let ov ← holding [v] (eval (.Name x px) X.env)
      let iv ← holding [v, ov] (eval a X.env)
      standAt pos'
      holding [v, ov, iv] (setItem ov iv v)
      release [v, ov, iv] []) := by intro _; rfl) : Egk X ι (.Subscript (.Name x px) a pos') d Γ Γ2 := by
  intro C σ H v g rd
  obtain ⟨v1, v2, v3⟩ := vis_of hv
  refine WG.of (pg_sub (pe_var (i := i) (by rw [S.hN]; exact hN) (by rw [S.hsc]; exact v1) v2 v3) (pe_we X a) set_list hq) ?_
  obtain ⟨q, vs, e1, h2, rr⟩ := own_now g ho
  refine ⟨_, e1, ?_⟩
  refine (hk σ H g.toEnvR).mono fun y H2 ⟨s2, r2⟩ => ?_
  cases r2
  have h3 : H2 q = some (.lst vs) := s2 _ _ h2
  refine ⟨q, vs, k, j, rfl, rfl, h3, by rw [rr.length]; exact hj, ?_⟩
  obtain ⟨g2, s3⟩ := own_lst (g.same s2) ho e1 h3 ((Reps.mono s2.kp rr).set (Rep.mono s2.kp rd) j)
  exact ⟨g2, s2.kp.trans s3.kp⟩

/-! ### own methods -/
/-- the method m of the class at C: what it promises -/
structure MethAt (P : Program) (w : World) (K : PySem.W.Frag) (mg : Str → Option Value) (base : Heap) (ι : Addr → Nat → Prop) (k : Nat) (C : Addr) (m : Str) (n : Nat) (F : FR) : Prop where
  ex : ∃ f fd ps, FnOk P w K mg base (L2.CX P w) k f fd ps (spD K ι n F) ∧ Meth K C m f ∧ Binds K fd ps [] ∧ ps.length = n
  cl : Cls K C
/-- o.m(..), all data, o an instance -/
theorem ep_meth {k n : Nat} {x : Str} {F : FR} {C : Addr} {fl : List (Str × D)} (G : MethAt X.prog X.w X.K X.mg X.base ι k C x n F) (hr : Room k X.A) (hob : Ep X ι Γ o (.im (.ins C fl))) (ha : Eds X ι Γ (e :: es) ds) (hF : F ((D.ins C fl :: ds).map Slot.im) (.ret r fs)) (hno : fl.lookup x = none) (hl : ds.length + 1 = n := by rfl)
    (hst : starEach (e :: es) X.env = (false, eval e X.env) :: starEach es X.env := by rfl) (hpl : (backTo pos (starEach es X.env)).any (·.1) = false := by rfl) {pl : Sem Bool}
    (ht : eval (.Call (.Attribute o x apos) (e :: es) [] pos) X.env = (do
      let ov ← eval o X.env
      standAt apos.atName
      let (f, first) ← holding [ov] (getMethod ov x pl)
      callWith pos f first (backTo pos (starEach (e :: es) X.env)) (backToKw pos (keywordEach [] X.env))) := by rfl) : Ep X ι Γ (.Call (.Attribute o x apos) (e :: es) [] pos) r := by
  intro σ H g
  obtain ⟨f, fd, ps, Fo, hm, hb, hpn⟩ := G.ex
  refine WE.of (pe_meth (pl := pl) (pe_we X o) G.cl hm Fo hr hb .nil passL (pa_wa X _) hst hpl ht) ?_
  refine (hob σ H g).mono fun v0 H0 ⟨s0, r0⟩ => ?_
  have r0' : Rep X.K ι H0 (.ins C fl) v0 := r0
  obtain ⟨q, dx, fs', ev, h1, h2⟩ := RV.ins (r := .im (.ins C fl)) r0' .im
  subst ev
  refine ⟨q, dx, fs', rfl, h1, h2.lookup_none hno, ?_⟩
  refine (ha σ H0 (g.same s0)).mono fun vs H1 ⟨s1, r1⟩ => ?_
  show spD X.K ι n F (.ref q :: (vs ++ [])) H1 _ _
  rw [List.append_nil]
  have rr : Reps X.K ι H1 (D.ins C fl :: ds) (.ref q :: vs) := .cons (r0'.mono s1.kp) r1
  refine ⟨by rw [rr.length]; exact hl, _, .ret r fs, hF, args_im rr, fun v H' hp hv => ⟨(s0.trans s1).trans fun b o e => hp.keep b o e (.inr fun i h => (no_mu h).elim), hv.older (s0.trans s1)⟩⟩
/-- o.m() -/
theorem ep_meth0 {k : Nat} {x : Str} {F : FR} {C : Addr} {fl : List (Str × D)} (G : MethAt X.prog X.w X.K X.mg X.base ι k C x 1 F) (hr : Room k X.A) (hob : Ep X ι Γ o (.im (.ins C fl))) (hF : F [.im (.ins C fl)] (.ret r fs)) (hno : fl.lookup x = none) {pl : Sem Bool}
    (ht : eval (.Call (.Attribute o x apos) [] [] pos) X.env = (do
      let ov ← eval o X.env
      standAt apos.atName
      let (f, first) ← holding [ov] (getMethod ov x pl)
      callWith pos f first (backTo pos (starEach [] X.env)) (backToKw pos (keywordEach [] X.env))) := by rfl) : Ep X ι Γ (.Call (.Attribute o x apos) [] [] pos) r := by
  intro σ H g
  obtain ⟨f, fd, ps, Fo, hm, hb, hpn⟩ := G.ex
  refine WE.of (pe_meth0 (pl := pl) (pe_we X o) G.cl hm Fo hr hb .nil passL ht) ?_
  refine (hob σ H g).mono fun v0 H0 ⟨s0, r0⟩ => ?_
  have r0' : Rep X.K ι H0 (.ins C fl) v0 := r0
  obtain ⟨q, dx, fs', ev, h1, h2⟩ := RV.ins (r := .im (.ins C fl)) r0' .im
  subst ev
  refine ⟨q, dx, fs', rfl, h1, h2.lookup_none hno, ?_⟩
  show spD X.K ι 1 F [.ref q] H0 _ _
  have rr : Reps X.K ι H0 [D.ins C fl] [.ref q] := .cons r0' .nil
  refine ⟨rfl, _, .ret r fs, hF, args_im rr, fun v H' hp hv => ⟨s0.trans fun b o e => hp.keep b o e (.inr fun i h => (no_mu (ds := [D.ins C fl]) h).elim), hv.older s0⟩⟩

/-! ### making instances -/
/-- the class called x, at C: what its __init__ promises; dvs: the defaults that fill up -/
structure MakeAt (P : Program) (w : World) (K : PySem.W.Frag) (mg : Str → Option Value) (base : Heap) (ι : Addr → Nat → Prop) (k : Nat) (x : Str) (C : Addr) (n : Nat) (dvs : List D) (F : FR) : Prop where
  ex : ∃ f fd ps dvV ds, FnOk P w K mg base (L2.CX P w) k f fd ps (spD K ι n F) ∧ Mk K C f ∧ mg x = some (.ref C) ∧ Binds K fd ps ds ∧ Vals dvV ds ∧ (∀ H, Reps K ι H dvs dvV) ∧ ps.length = n
/-- C(..), the instance is data from here on -/
theorem ep_make {k n : Nat} {x : Str} {F : FR} {C : Addr} {dvs : List D} {fl : List (Str × D)} {fsl : List Slot} (S : Sx X sc N) (G : MakeAt X.prog X.w X.K X.mg X.base ι k x C n dvs F) (hr : Room (k + 1) X.A) (hg : glB sc x = true) (ha : Eds X ι Γ (e :: es) ds)
    (hF : F (.mu (.ins C []) :: (ds ++ dvs).map Slot.im) (.ret (.im .non) (.mu (.ins C fl) :: fsl))) (hi : ι C fl.length) (hni : ¬ ι C 0) (hl : ds.length + dvs.length + 1 = n := by rfl)
    (he : starEach (e :: es) X.env = (false, eval e X.env) :: starEach es X.env := by rfl) (hpl : (backTo pos (starEach es X.env)).any (·.1) = false := by rfl) : Ep X ι Γ (.Call (.Name x p) (e :: es) [] pos) (.im (.ins C fl)) := by
  intro σ H g
  obtain ⟨f, fd, ps, dvV, dsV, Fo, mk, hm, hb, hdv, hrd, hpn⟩ := G.ex
  refine WE.of (pe_make mk Fo hr (S.gl hg) hm hb hdv passL (pa_wa X _) (gl_of hg).2.1 he hpl) ?_
  refine (ha σ H g).mono fun vs H1 ⟨s1, r1⟩ => ?_
  intro q dq nq ndq neq
  have s2 : Same H1 (upd (upd H1 dq (.own q)) q (.ins C dq [])) := fun b u eu => by rw [upd_ne (ne_of_none eu nq), upd_ne (ne_of_none eu ndq)]; exact eu
  have rr : Reps X.K ι (upd (upd H1 dq (.own q)) q (.ins C dq [])) (ds ++ dvs) (vs ++ dvV) := (r1.mono s2.kp).append (hrd _)
  have ai := args_im rr
  refine ⟨by rw [List.length_cons, rr.length, List.length_append]; exact hl, _, .ret (.im .non) (.mu (.ins C fl) :: fsl), hF, ⟨by rw [List.length_cons, rr.length, List.length_cons, List.length_map], fun i d ed => ?_, fun i m em => ?_, fun i m em => ?_, fun i j z ne hi' hj' e1 e2 => ?_⟩, fun v H' hp hv => ?_⟩
  · cases i with
    | zero => simp at ed
    | succ i => simpa only [List.getElem?_cons_succ] using ai.im i d (by simpa only [List.getElem?_cons_succ] using ed)
  · cases i with
    | zero =>
      simp at em; subst em
      exact ⟨q, rfl, dq, [], upd_same, .nil⟩
    | succ i => exact (no_mu ⟨m, by simpa only [List.getElem?_cons_succ] using em⟩).elim
  · cases i with
    | zero => simp at em
    | succ i => exact ai.no i m (by simpa only [List.getElem?_cons_succ] using em)
  · cases i with
    | zero =>
      cases j with
      | zero => exact ne rfl
      | succ j => exact no_mu (let ⟨m, em⟩ := hj'; ⟨m, by simpa only [List.getElem?_cons_succ] using em⟩)
    | succ i => exact no_mu (let ⟨m, em⟩ := hi'; ⟨m, by simpa only [List.getElem?_cons_succ] using em⟩)
  · cases hv
    obtain ⟨q', eq', dx, fs', h1, h2⟩ := hp.fin 0 _ rfl
    simp at eq'; subst eq'
    refine ⟨rfl, s1.trans fun b u eu => ?_, .ins h1 (by rw [h2.length]; exact hi) h2⟩
    refine hp.keep b u (s2 _ _ eu) (.inr fun i hm' z => ?_)
    cases i with
    | zero => simp at z; subst z; rw [nq] at eu; cases eu
    | succ i => exact no_mu (let ⟨m, em⟩ := hm'; ⟨m, by simpa only [List.getElem?_cons_succ] using em⟩)
/-- x.f = e, x the instance that is being made -/
theorem st_fld (S : Sx X sc N) (i : Nat) {x f : Str} {C : Addr} {fl fl' : List (Str × D)} (hN : N[i]? = some x) (hv : visB sc x = true) (h : Ev X ι Γ e (.im d) Γ1) (hs : Γ1[i]? = some (.mu (.ins C fl))) (c : Cls X.K C) (n : NoAttr X.K C f) (hni : ¬ ι C fl.length) (hlt : fl.length < 1000) (hfl : fl.lookup f = none) (h' : Φ.nx (Γ1.set i (.mu (.ins C (fl ++ [(f, d)])))))
    (hw : swapsWith e (some (.Attribute (.Name x px) f pos')) pos.line X.env = pure false := by rfl) : St X ι Γ (.Assign [.Attribute (.Name x px) f pos'] e pos) Φ := by
  intro Cf σ H tk g
  obtain ⟨v1, v2, v3⟩ := vis_of hv
  refine WS.of (ps_fld (pe_var (i := i) (by rw [S.hN]; exact hN) (by rw [S.hsc]; exact v1) v2 v3) (pe_we X e) hw) ?_
  refine (h.2 Cf σ H g).mono fun v H1 ⟨g1, s1, r1⟩ => ?_
  obtain ⟨q, e1, dx, fs', h1, h2⟩ := g1.toEnvR.own (.inr hs)
  refine ⟨_, e1, q, C, dx, fs', rfl, h1, c, n, by rw [h2.length]; exact hlt, ?_⟩
  have ni : ∀ o, H1 q = some o → ¬ Im ι o := fun o eo => by rw [h1] at eo; cases eo; exact fun z => hni (by rw [← h2.length]; exact z)
  have hput : ∀ {fl : List (Str × D)} {fs' : List (Str × V)}, RepF X.K ι H1 fl fs' → fl.lookup f = none → putF f v fs' = fs' ++ [(f, v)] := by
    intro fl
    induction fl with
    | nil => intro fs' hr _; cases hr; rfl
    | cons a fl ih =>
      intro fs' hr hn
      cases hr with
      | cons hx hr =>
        rw [List.lookup_cons] at hn
        split at hn
        · cases hn
        · rename_i k _ _ _ hk
          show (if _ = f then _ else _ :: putF f v _) = _
          rw [if_neg (fun z => by subst z; simp at hk), ih hr hn]
          rfl
  have e2 := hput h2 hfl
  have kp : ∀ o, Kp ι H1 (upd H1 q o) := fun o b u eu i => by rw [upd_ne (fun z => by subst z; exact ni u eu i)]; exact eu
  have rf : ∀ {fl : List (Str × D)} {fs' : List (Str × V)} {H : Hp}, RepF X.K ι H fl fs' → Rep X.K ι H d v → RepF X.K ι H (fl ++ [(f, d)]) (fs' ++ [(f, v)]) := by
    intro fl
    induction fl with
    | nil => intro fs' H hr hd; cases hr; exact .cons hd .nil
    | cons a fl ih => intro fs' H hr hd; cases hr with | cons hx hr => exact .cons hx (ih hr hd)
  obtain ⟨g2, s2⟩ := g1.setM (H' := upd H1 q (.ins C dx (putF f v fs'))) (m' := .ins C (fl ++ [(f, d)])) (.inr hs) e1 (fun b o ne eo => by rw [upd_ne ne]; exact eo) ni (show MRep X.K ι _ q (.ins C (fl ++ [(f, d)])) from ⟨dx, fs' ++ [(f, v)], by rw [e2]; exact upd_same, rf (h2.mono (kp _)) (Rep.mono (kp _) r1)⟩) _ (.inr ⟨hs, rfl⟩)
  exact ⟨_, g2, s1.kp.trans s2.kp, h'⟩
end
end DL
/-! DL, part j: a small language of our own; what its terms come to. -/
namespace DL
open PySem PySem.Spec L2
open Classical

/-- built-ins by name -/
inductive Bi where
  | len | abs | max2 | min2 | sum | all | any | divmod | int | str | tuple | list | min | srtset
inductive Ty where
  | int | bool | str | tuple | list | dict | cls (j : Nat)
inductive ItK where
  | keys | seq | range1 | range2 | enum
/-- pure terms -/
inductive PE where
  | var (i : Nat) | int (i : Int) | str (s : Str) | bl (b : Bool) | non | con (j : Nat)
  | bin (op : Operator) (a b : PE) | cmp (op : CmpOp) (a b : PE) | chain (o1 o2 : CmpOp) (a b c : PE)
  | and (a b : PE) | or (a b : PE) | not (a : PE) | neg (a : PE) | ite (c a b : PE)
  | tup (es : List PE) | lst (es : List PE)
  | ix (a b : PE) | sl (a : PE) (lo hi : Option PE) | rev (a : PE)
  | fld (c : Nat) (a : PE) (f : Str)
  | call (j : Nat) (es : List PE)
  | meth (j : Nat) (o : PE) (es : List PE)
  | make (c : Nat) (es : List PE)
  | bi (f : Bi) (es : List PE)
  | isi (a : PE) (t : Ty)
  | oeq (m : Nat) (a b : PE)
  | call0 (j : Nat)
  | kd (j : Nat) | kin (neg : Bool) (a : PE) (j : Nat) | kget (j : Nat) (a : PE)
  | callV (i : Nat) (es : List PE)
  | callK (q : Nat) (es : List PE)
  | lc (vs : List Nat) (k : ItK) (it : List PE) (c : Option PE) (e : PE)
/-- a def that is called as a method: its class, its number among the defs -/
structure Tb where
  call : Nat → List Slot → Option Out
  con : Nat → D
  cls : Nat → Addr
  full : Nat → Nat
  meth : Nat → Nat × Nat
  mnm : Nat → Str
  init : Nat → Nat × List D
  kd : Nat → Addr × List (Str × D)
  fns : List Nat
  adr : Nat → Addr
  kw : Nat → Nat × List Nat

/-! ### values -/
def R.lst? : R → Option (List D)
  | .im (.lst ds) => some ds | .ow (.lst ds) => some ds | .vo (.lst ds) => some ds | _ => none
def R.lsq? : R → Option (List D)
  | .im (.lst ds) => some ds | .ow (.lst ds) => some ds | .vo (.lst ds) => some ds | .im (.klst ds) => some ds | _ => none
def R.seq? : R → Option (List D)
  | .im (.lst ds) => some ds | .ow (.lst ds) => some ds | .vo (.lst ds) => some ds | .im (.tup ds) => some ds | .im (.klst ds) => some ds | _ => none
def R.toD : R → Option D
  | .im d => some d | .ow (.lst ds) => some (.lst ds) | .ow (.dic ds) => some (.dic ds) | _ => none
def R.int? : R → Option Int
  | .im (.int i) => some i | _ => none
def R.bl? : R → Option Bool
  | .im (.bl i) => some i | _ => none
noncomputable def gd {α : Type} (p : Prop) (x : α) : Option α := if p then some x else none
@[simp] theorem gd_pos {α : Type} {p : Prop} {x : α} (h : p) : gd p x = some x := if_pos h
theorem gd_some {α : Type} {p : Prop} {x y : α} (h : gd p x = some y) : p ∧ x = y := by
  unfold gd at h
  split at h
  · exact ⟨‹p›, Option.some.inj h⟩
  · cases h
noncomputable def catR (ra rb : R) : Option R :=
  match ra.lst?, rb.lst? with
  | some ds, some es => gd (ds.length + es.length ≤ sizeLine) (.ow (.lst (ds ++ es)))
  | _, _ => none
noncomputable def repR (ra : R) (n : Int) : Option R :=
  match ra.lst? with
  | some ds => gd (0 ≤ n ∧ n < 2 ^ 31 ∧ ds.length * n.toNat ≤ sizeLine) (.ow (.lst (List.replicate n.toNat ds).flatten))
  | none => none
noncomputable def binR : Operator → R → R → Option R
  | .Add, .im (.int i), .im (.int j) => some (.im (.int (i + j)))
  | .Add, .im (.str x), .im (.str y) => gd (x.length + y.length ≤ sizeLine) (.im (.str (x ++ y)))
  | .Add, .im (.tup ds), .im (.tup es) => gd (ds.length + es.length ≤ sizeLine) (.im (.tup (ds ++ es)))
  | .Add, ra, rb => catR ra rb
  | .Sub, .im (.int i), .im (.int j) => some (.im (.int (i - j)))
  | .Mult, .im (.int i), .im (.int j) => gd (CMul i j ∨ CMulW i j) (.im (.int (i * j)))
  | .Mult, .im (.tup ds), .im (.int n) => gd (1 ≤ n ∧ n ≤ 1000 ∧ ds.length ≤ 1000 ∧ ds ≠ []) (.im (.tup (List.replicate n.toNat ds).flatten))
  | .Mult, ra, .im (.int n) => repR ra n
  | .Mod, .im (.int i), .im (.int j) => gd (0 < j) (.im (.int (i % j)))
  | .FloorDiv, .im (.int i), .im (.int j) => gd (CDivW i j) (.im (.int (i / j)))
  | .Pow, .im (.int i), .im (.int j) => gd (CPow i j) (.im (.int (i ^ j.toNat)))
  | _, _, _ => none
mutual
/-- as data of the library: whole numbers, truths, texts, None, lists and tuples of these -/
def pyD : D → Option PyData
  | .non => some .none
  | .bl b => some (.bool b)
  | .int i => some (.int i)
  | .str x => some (.str x)
  | .tup ds => match pyDs ds with | some ps => some (.tuple ps) | none => none
  | .lst ds => match pyDs ds with | some ps => some (.list ps) | none => none
  | _ => none
def pyDs : List D → Option (List PyData)
  | [] => some []
  | d :: ds => match pyD d with
    | some p => match pyDs ds with | some ps => some (p :: ps) | none => none
    | none => none
end
/-- what a result is as data to be looked at, own or not -/
def R.lookD : R → Option D
  | .im d => some d | .ow (.lst ds) => some (.lst ds) | .vo (.lst ds) => some (.lst ds) | _ => none
noncomputable def eqR (ra rb : R) : Option Bool :=
  (ra.lookD.bind pyD).bind fun p => (rb.lookD.bind pyD).bind fun q => gd (p.depth ≤ 60) (PyData.eqv p q)
noncomputable def inR (ra rb : R) : Option Bool :=
  match ra, rb with
  | .im (.str x), .im (.str z) => gd (x.length = 1) (z.cps.toList.contains (x.cps.toList.headD 0))
  | ra, rb => (ra.lookD.bind pyD).bind fun p => (rb.seq?.bind pyDs).bind fun qs => gd (p.depth ≤ 60) (qs.any fun y => PyData.eqv y p)
def nonR : R → Bool
  | .im .non => true | _ => false
noncomputable def cmpR : CmpOp → R → R → Option Bool
  | .Lt, .im (.int i), .im (.int j) => some (decide (i < j))
  | .LtE, .im (.int i), .im (.int j) => some (decide (i ≤ j))
  | .Gt, .im (.int i), .im (.int j) => some (decide (j < i))
  | .GtE, .im (.int i), .im (.int j) => some (decide (j ≤ i))
  | .Eq, ra, rb => eqR ra rb
  | .NotEq, ra, rb => (eqR ra rb).map (!·)
  | .Is, ra, .im .non => some (nonR ra)
  | .IsNot, ra, .im .non => some (!nonR ra)
  | .In, ra, rb => inR ra rb
  | .NotIn, ra, rb => (inR ra rb).map (!·)
  | _, _, _ => none
noncomputable def ixR (ra rb : R) : Option R :=
  match rb with
  | .im (.int i) => match ra with
    | .im (.tup ds) => (atI ds i).map .im
    | .im (.str z) => if z.length ≤ sizeLine then (atI z.cps.toList i).map fun c => .im (.str ⟨#[c]⟩) else none
    | ra => match ra.lsq? with
      | some ds => (atI ds i).map .im
      | none => none
  | _ => none
def slR (ra : R) (lo hi : Option Int) : Option R :=
  match ra with
  | .im (.tup ds) => some (.im (.tup (cutD ds lo hi)))
  | .im (.str z) => if z.length ≤ sizeLine then some (.im (.str (cutS z lo hi))) else none
  | ra => match ra.lsq? with
    | some ds => some (.ow (.lst (cutD ds lo hi)))
    | none => none
/-- x[::-1] -/
def revR (ra : R) : Option R :=
  match ra with
  | .im (.tup ds) => some (.im (.tup ds.reverse))
  | ra => match ra.lst? with
    | some ds => some (.ow (.lst ds.reverse))
    | none => none
def intsD : List D → Option (List Int)
  | [] => some []
  | .int i :: ds => (intsD ds).map (i :: ·)
  | _ => none
def blsD : List D → Option (List Bool)
  | [] => some []
  | .bl i :: ds => (blsD ds).map (i :: ·)
  | _ => none
noncomputable def biR : Bi → List R → Option R
  | .len, [.im (.str z)] => gd (z.length ≤ sizeLine) (.im (.int z.length))
  | .len, [r] => r.seq?.map fun ds => .im (.int ds.length)
  | .abs, [.im (.int i)] => some (.im (.int (if i < 0 then -i else i)))
  | .max2, [.im (.int i), .im (.int j)] => some (.im (.int (if j > i then j else i)))
  | .min2, [.im (.int i), .im (.int j)] => some (.im (.int (if j < i then j else i)))
  | .sum, [r] => match r.lst? with | some ds => (intsD ds).map fun ns => .im (.int ns.sum) | none => none
  | .all, [r] => match r.lst? with | some ds => (blsD ds).map fun ns => .im (.bl (ns.all id)) | none => none
  | .any, [r] => match r.lst? with | some ds => (blsD ds).map fun ns => .im (.bl (ns.any id)) | none => none
  | .divmod, [.im (.int i), .im (.int j)] => gd (CDivP i j) (.im (.tup [.int (i / j), .int (i % j)]))
  | .int, [.im (.int i)] => some (.im (.int i))
  | .int, [.im (.bl b)] => some (.im (.int (if b then 1 else 0)))
  | .str, [.im (.int i)] => gd (i.natAbs.log2 < 1920) (.im (.str (toString i)))
  | .tuple, [r] => r.seq?.map fun ds => .im (.tup ds)
  | .list, [r] => r.seq?.map fun ds => .ow (.lst ds)
  | .min, [r] => r.lst?.bind fun ds => (pyDs ds).bind fun ps => if (∀ i j, i < ps.length → j < ps.length → PySem.W.alike (ps.getD i .none) (ps.getD j .none) = true) ∧ (∀ p ∈ ps, p ≠ .none ∧ p.depth ≤ 64) then (ds[DLX.leastAt ps]?).map R.im else none
  | _, _ => none
def isiD (cls : Nat → Addr) : D → Ty → Option Bool
  | .int _, .int => some true | .bl _, .int => some true | .str _, .int => some false | .non, .int => some false | .tup _, .int => some false | .lst _, .int => some false
  | .int _, .bool => some false | .bl _, .bool => some true | .str _, .bool => some false | .non, .bool => some false | .tup _, .bool => some false | .lst _, .bool => some false
  | .int _, .str => some false | .bl _, .str => some false | .str _, .str => some true | .non, .str => some false | .tup _, .str => some false | .lst _, .str => some false
  | .int _, .tuple => some false | .bl _, .tuple => some false | .str _, .tuple => some false | .non, .tuple => some false | .tup _, .tuple => some true | .lst _, .tuple => some false
  | .int _, .list => some false | .bl _, .list => some false | .str _, .list => some false | .non, .list => some false | .tup _, .list => some false | .lst _, .list => some true
  | .ins C _, .cls j => if C = cls j then some true else none
  | _, _ => none

/-! ### terms -/
def bindL (vs : List Nat) (d : D) (Γ : List Slot) : Option (List Slot) :=
  match vs with
  | [i] => if i < Γ.length then some (Γ.set i (.im d)) else none
  | [i, j] => match d with
    | .tup [d1, d2] => if i < Γ.length ∧ j < Γ.length ∧ i ≠ j then some ((Γ.set i (.im d1)).set j (.im d2)) else none
    | _ => none
  | _ => none
def mapO {α β : Type} (f : α → Option β) : List α → Option (List β)
  | [] => some []
  | a :: as => match f a with
    | some b => match mapO f as with
      | some bs => some (b :: bs)
      | none => none
    | none => none
def lcRun (f : D → Option (Option D)) : List D → Option (List D)
  | [] => some []
  | d :: ds => match f d with
    | none => none
    | some none => lcRun f ds
    | some (some y) => match lcRun f ds with
      | some ys => some (y :: ys)
      | none => none
noncomputable def itR (k : ItK) (rs : List R) : Option (List D) :=
  match k, rs with
  | .seq, [.im (.lst ds)] => some ds
  | .seq, [.ow (.lst ds)] => some ds
  | .seq, [.im (.tup ds)] => some ds
  | .seq, [.im (.str z)] => some (z.cps.toList.map fun c => .str ⟨#[c]⟩)
  | .range1, [.im (.int n)] => gd (-(2 ^ 62) ≤ n ∧ n < 2 ^ 62) ((List.range n.toNat).map fun i => .int ((i : Nat) : Int))
  | .range2, [.im (.int m), .im (.int n)] => gd (-(2 ^ 62) ≤ m ∧ m < 2 ^ 62 ∧ -(2 ^ 62) ≤ n ∧ n < 2 ^ 62) ((List.range (n - m).toNat).map fun i => .int (m + (i : Nat)))
  | .enum, [.im (.tup ds)] => some (ds.zipIdx.map fun p => D.tup [.int (p.2 : Nat), p.1])
  | .enum, [.im (.lst ds)] => some (ds.zipIdx.map fun p => D.tup [.int (p.2 : Nat), p.1])
  | .enum, [.ow (.lst ds)] => some (ds.zipIdx.map fun p => D.tup [.int (p.2 : Nat), p.1])
  | _, _ => none
noncomputable def itK (T : Tb) (k : ItK) (it : List PE) (rs : List R) : Option (List D) :=
  match k, it with
  | .keys, [.kd j] => some ((T.kd j).2.map fun p => D.str p.1)
  | k, _ => itR k rs
def slotR : Slot → Option R
  | .im d => some (.im d) | .ow m => some (.vo m) | .mu m => some (.vo m) | .un => none
def argS (ds : List D) : List Slot := ds.map Slot.im
def optI (f : PE → Option R) : Option PE → Option (Option Int)
  | none => some none
  | some e => ((f e).bind R.int?).map some
noncomputable def evP (T : Tb) : Nat → PE → List Slot → Option R
  | 0, _, _ => none
  | n + 1, e, Γ =>
    let ev := evP T n
    let evs := fun es : List PE => mapO (fun e => ev e Γ) es
    let evd := fun es : List PE => mapO (fun e => (ev e Γ).bind R.toD) es
    match e with
    | .var i => Γ[i]?.bind slotR
    | .int i => some (.im (.int i)) | .str s => some (.im (.str s)) | .bl b => some (.im (.bl b)) | .non => some (.im .non)
    | .con j => some (.im (T.con j))
    | .bin op a b => (ev a Γ).bind fun ra => (ev b Γ).bind fun rb => binR op ra rb
    | .cmp op a b => (ev a Γ).bind fun ra => (ev b Γ).bind fun rb => (cmpR op ra rb).map fun q => .im (.bl q)
    | .chain o1 o2 a b c => (ev a Γ).bind fun ra => (ev b Γ).bind fun rb => (ev c Γ).bind fun rc => (cmpR o1 ra rb).bind fun p => (cmpR o2 rb rc).map fun q => .im (.bl (p && q))
    | .and a b => ((ev a Γ).bind R.bl?).bind fun p => if p then ((ev b Γ).bind R.bl?).map fun q => .im (.bl q) else some (.im (.bl false))
    | .or a b => ((ev a Γ).bind R.bl?).bind fun p => if p then some (.im (.bl true)) else ((ev b Γ).bind R.bl?).map fun q => .im (.bl q)
    | .not a => ((ev a Γ).bind R.bl?).map fun p => .im (.bl (!p))
    | .neg a => ((ev a Γ).bind R.int?).map fun p => .im (.int (-p))
    | .ite c a b => ((ev c Γ).bind R.bl?).bind fun p => if p then ev a Γ else ev b Γ
    | .tup es => (evd es).bind fun ds => gd (ds.length ≤ sizeLine) (.im (.tup ds))
    | .lst es => (evd es).bind fun ds => gd (ds.length ≤ sizeLine) (.ow (.lst ds))
    | .ix a b => (ev a Γ).bind fun ra => (ev b Γ).bind fun rb => ixR ra rb
    | .sl a lo hi => (ev a Γ).bind fun ra =>
        (optI (fun e => ev e Γ) lo).bind fun l => (optI (fun e => ev e Γ) hi).bind fun u => slR ra l u
    | .rev a => (ev a Γ).bind revR
    | .fld c a f => (ev a Γ).bind fun ra => match ra with
        | .im (.ins C fs) => if C = T.cls c then (fs.lookup f).map .im else none
        | .vo (.ins C fs) => if C = T.cls c then (fs.lookup f).map .im else none
        | _ => none
    | .call j es => (evd es).bind fun ds => match T.call j (argS ds) with
        | some (.ret r _) => some r
        | _ => none
    | .meth j o es => (ev o Γ).bind fun ro => match ro with
        | .im (.ins C fl) => (evd es).bind fun ds => if C = T.cls (T.meth j).1 ∧ fl.lookup (T.mnm j) = none then match T.call (T.meth j).2 (argS (.ins C fl :: ds)) with
            | some (.ret r _) => some r
            | _ => none
          else none
        | _ => none
    | .make c es => (evd es).bind fun ds => match T.call (T.init c).1 (.mu (.ins (T.cls c) []) :: argS (ds ++ (T.init c).2)) with
        | some (.ret (.im .non) (.mu (.ins C fl) :: _)) => if C = T.cls c ∧ fl.length = T.full c then some (.im (.ins C fl)) else none
        | _ => none
    | .bi f es => (evs es).bind fun rs => biR f rs
    | .isi a t => ((ev a Γ).bind R.lookD).bind fun d => (isiD T.cls d t).map fun b => .im (.bl b)
    | .oeq m a b => (ev a Γ).bind fun ra => (ev b Γ).bind fun rb => match ra, rb with
        | .im (.ins C fl), .im (.ins C' gl) => if C = T.cls (T.meth m).1 ∧ C' = C then match T.call (T.meth m).2 (argS [.ins C fl, .ins C' gl]) with
            | some (.ret (.im (.bl q)) _) => some (.im (.bl q))
            | _ => none
          else none
        | _, _ => none
    | .call0 j => match T.call j [] with
        | some (.ret r _) => some r
        | _ => none
    | .kd j => some (.im (.ref (T.kd j).1))
    | .kin neg a j => (ev a Γ).bind fun ra => match ra with
        | .im (.str z) => some (.im (.bl (if neg then !((T.kd j).2.lookup z).isSome else ((T.kd j).2.lookup z).isSome)))
        | _ => none
    | .kget j a => (ev a Γ).bind fun ra => match ra with
        | .im (.str z) => ((T.kd j).2.lookup z).map .im
        | _ => none
    | .callV i es => match Γ[i]? with
        | some (.im (.ref a)) => (T.fns.find? fun j => T.adr j = a).bind fun j => (evd es).bind fun ds => match T.call j (argS ds) with
          | some (.ret r _) => some r
          | _ => none
        | _ => none
    | .callK q es => (evd es).bind fun ds => if ds.length = (T.kw q).2.length then match T.call (T.kw q).1 (argS ((T.kw q).2.map fun i => ds.getD i .non)) with
          | some (.ret r _) => some r
          | _ => none
        else none
    | .lc vs k it c e => (evs it).bind fun rs => (itK T k it rs).bind fun ds => if ds.length ≤ sizeLine then
        (lcRun (fun d => (bindL vs d Γ).bind fun Γ' => match c with
          | none => ((ev e Γ').bind R.toD).map some
          | some c => ((ev c Γ').bind R.bl?).bind fun p => if p then ((ev e Γ').bind R.toD).map some else some none) ds).map fun ys => .ow (.lst ys)
      else none
end DL
/-! DL, part k: the value tables hold. -/
namespace DL
open PySem PySem.Spec L2 PySem.SeqAt
section
variable {X : Cx} {ι : Addr → Nat → Prop} {K : PySem.W.Frag} {H : Hp} {r ra rb rr : R} {v : V} {ds es : List D} {i j : Int}
theorem lst_of (h : r.lst? = some ds) : LstR ds r := by
  unfold R.lst? at h
  split at h <;> first | (cases h; done) | (cases h; constructor)
theorem lsq_of (h : r.lsq? = some ds) : LsqR ds r := by
  unfold R.lsq? at h
  split at h <;> first | (cases h; done) | (cases h; first | exact .ks | exact .l (by constructor))
theorem seq_of (h : r.seq? = some ds) : SeqR ds r := by
  unfold R.seq? at h
  split at h <;> first | (cases h; done) | (cases h; constructor)
theorem toD_of {d : D} (h : r.toD = some d) : ToD r d := by
  unfold R.toD at h
  split at h <;> first | (cases h; done) | (cases h; constructor)
theorem int_of {i : Int} (h : r.int? = some i) : r = .im (.int i) := by
  unfold R.int? at h
  split at h <;> first | (cases h; done) | (cases h; rfl)
theorem bl_of {i : Bool} (h : r.bl? = some i) : r = .im (.bl i) := by
  unfold R.bl? at h
  split at h <;> first | (cases h; done) | (cases h; rfl)
theorem catR_ok (h : catR ra rb = some rr) : OpOk X ι (binaryOp .Add) ra rb rr := by
  unfold catR at h
  split at h
  · rename_i ds es e1 e2
    obtain ⟨h1, e⟩ := gd_some h
    subst e
    exact bin_cat (lst_of e1) (lst_of e2) h1
  · cases h
theorem repR_ok {n : Int} (h : repR ra n = some rr) : OpOk X ι (binaryOp .Mult) ra (.im (.int n)) rr := by
  unfold repR at h
  split at h
  · rename_i ds e1
    obtain ⟨⟨h1, h2, h3⟩, e⟩ := gd_some h
    subst e
    exact bin_repL (lst_of e1) h1 h3 h2
  · cases h
theorem binR_ok {op : Operator} (h : binR op ra rb = some rr) : OpOk X ι (binaryOp op) ra rb rr := by
  unfold binR at h
  split at h
  · cases h; exact bin_add
  · obtain ⟨h1, e⟩ := gd_some h; subst e; exact bin_add_str h1
  · obtain ⟨h1, e⟩ := gd_some h; subst e; exact bin_catT h1
  · exact catR_ok h
  · cases h; exact bin_sub
  · obtain ⟨h1, e⟩ := gd_some h; subst e; exact h1.elim bin_mul bin_mulW
  · obtain ⟨⟨h1, h2, h3, h4⟩, e⟩ := gd_some h; subst e; exact bin_repT h1 h2 h3 h4
  · exact repR_ok h
  · obtain ⟨h1, e⟩ := gd_some h; subst e; exact bin_mod h1
  · obtain ⟨h1, e⟩ := gd_some h; subst e; exact bin_fdiv h1
  · obtain ⟨h1, e⟩ := gd_some h; subst e; exact bin_pow h1
  · cases h
mutual
theorem rep_dp : ∀ {d : D} {v : V} {p : PyData}, pyD d = some p → Rep K ι H d v → Dp K H v p
  | .non, _, _, h, .non => by cases h; exact .non
  | .bl b, _, _, h, .bl _ => by cases h; exact .bl _
  | .int b, _, _, h, .int _ => by cases h; exact .int _
  | .str b, _, _, h, .str _ => by cases h; exact .str _
  | .tup ds, _, p, h, .tup h1 h2 => by
    unfold pyD at h
    split at h
    · cases h; exact .tup h1 (reps_dp ‹_› h2)
    · cases h
  | .lst ds, _, p, h, .lst h1 h2 => by
    unfold pyD at h
    split at h
    · cases h; exact .lst h1.sq (reps_dp ‹_› h2)
    · cases h
  | .dic _, _, _, h, _ => by cases h
  | .klst _, _, _, h, _ => by cases h
  | .ins _ _, _, _, h, _ => by cases h
  | .ref _, _, _, h, _ => by cases h
  | .ty _, _, _, h, _ => by cases h
theorem reps_dp : ∀ {ds : List D} {vs : List V} {ps : List PyData}, pyDs ds = some ps → Reps K ι H ds vs → DpAll K H vs ps
  | [], _, _, h, .nil => by cases h; exact .nil
  | d :: ds, _, _, h, .cons h1 h2 => by
    unfold pyDs at h
    split at h
    · split at h
      · cases h; exact .cons (rep_dp ‹_› h1) (reps_dp ‹_› h2)
      · cases h
    · cases h
end
mutual
theorem py_plain : ∀ {d : D} {p : PyData}, pyD d = some p → p.plain = true
  | .non, _, h => by cases h; rfl
  | .bl b, _, h => by cases h; rfl
  | .int b, _, h => by cases h; rfl
  | .str b, _, h => by cases h; rfl
  | .tup ds, p, h => by
    unfold pyD at h
    split at h
    · cases h; unfold PyData.plain; exact pys_plain ‹_›
    · cases h
  | .lst ds, p, h => by
    unfold pyD at h
    split at h
    · cases h; unfold PyData.plain; exact pys_plain ‹_›
    · cases h
  | .dic _, _, h => by cases h
  | .klst _, _, h => by cases h
  | .ins _ _, _, h => by cases h
  | .ref _, _, h => by cases h
  | .ty _, _, h => by cases h
theorem pys_plain : ∀ {ds : List D} {ps : List PyData}, pyDs ds = some ps → PyData.plainAll ps = true
  | [], _, h => by cases h; rfl
  | d :: ds, _, h => by
    unfold pyDs at h
    split at h
    · split at h
      · cases h; unfold PyData.plainAll; rw [py_plain ‹_›, pys_plain ‹_›]; rfl
      · cases h
    · cases h
end
theorem look_dp {p : PyData} (h : r.lookD.bind pyD = some p) (g : RV K ι H r v) : Dp K H v p ∧ p.plain = true := by
  cases e : r.lookD with
  | none => rw [e] at h; cases h
  | some d =>
    rw [e] at h
    refine ⟨?_, py_plain h⟩
    unfold R.lookD at e
    split at e
    · cases e; exact rep_dp h g
    · cases e
      obtain ⟨q, e1, vs, e2, e3⟩ := g
      subst e1
      have h' : (match pyDs _ with | some ps => some (PyData.list ps) | none => none) = some p := h
      split at h'
      · cases h'; exact .lst (.inl (.inl e2)) (reps_dp ‹_› e3)
      · cases h'
    · cases e
      obtain ⟨q, e1, vs, e2, e3⟩ := g
      subst e1
      have h' : (match pyDs _ with | some ps => some (PyData.list ps) | none => none) = some p := h
      split at h'
      · cases h'; exact .lst (.inl (.inl e2)) (reps_dp ‹_› e3)
      · cases h'
    · cases e
theorem op_eqP (hu : X.A.units + 61 < cLine) : OpR X (compareOp .Eq) (fun x y H Q => ∃ p q, Dp X.K H x p ∧ Dp X.K H y q ∧ p.plain = true ∧ q.plain = true ∧ p.depth ≤ 60 ∧ Q (.bl (PyData.eqv p q)) H) := by
  rintro pins s σ H x y v u Q I rx ry ⟨p, q, h1, h2, h3, h4, h5, k⟩
  obtain ⟨as, a1⟩ := Dp.reads I p x v h1 rx
  obtain ⟨bs, b1⟩ := Dp.reads I q y u h2 ry
  exact eq_plain a1 b1 h3 h4 (by omega) ⟨.bl _, H, I, rfl, k⟩
theorem op_neP (hu : X.A.units + 61 < cLine) : OpR X (compareOp .NotEq) (fun x y H Q => ∃ p q, Dp X.K H x p ∧ Dp X.K H y q ∧ p.plain = true ∧ q.plain = true ∧ p.depth ≤ 60 ∧ Q (.bl (!PyData.eqv p q)) H) := by
  rintro pins s σ H x y v u Q I rx ry ⟨p, q, h1, h2, h3, h4, h5, k⟩
  obtain ⟨as, a1⟩ := Dp.reads I p x v h1 rx
  obtain ⟨bs, b1⟩ := Dp.reads I q y u h2 ry
  exact ne_plain a1 b1 h3 h4 (by omega) ⟨.bl _, H, I, rfl, k⟩
theorem op_inP {neg : Bool} (hu : X.A.units + 62 < cLine) : OpR X (compareOp (if neg then .NotIn else .In)) (fun x y H Q => ∃ a xs p ps, Dp X.K H x p ∧ y = .ref a ∧ (SqL X.K H a xs ∨ SqT X.K H a xs) ∧ DpAll X.K H xs ps ∧ p.plain = true ∧ PyData.plainAll ps = true ∧ p.depth ≤ 60 ∧ Q (.bl (if neg then !(ps.any fun y => PyData.eqv y p) else ps.any fun y => PyData.eqv y p)) H) := by
  rintro pins s σ H x y v u Q I rx ry ⟨a, xs, p, ps, h1, rfl, h2, h3, h4, h5, h6, k⟩
  obtain ⟨as, a1⟩ := Dp.reads I p x v h1 rx
  rcases h2 with h2 | h2
  · obtain ⟨bs, b1⟩ := Dp.reads I (.list ps) _ u (.lst h2 h3) ry
    cases neg with
    | false => exact in_list_data b1 a1 h5 h4 (by omega) ⟨.bl _, H, I, rfl, k⟩
    | true => exact notIn_list_data b1 a1 h5 h4 (by omega) ⟨.bl _, H, I, rfl, k⟩
  · obtain ⟨bs, b1⟩ := Dp.reads I (.tuple ps) _ u (.tup h2 h3) ry
    cases neg with
    | false => exact in_tuple_data b1 a1 h5 h4 (by omega) ⟨.bl _, H, I, rfl, k⟩
    | true => exact notIn_tuple_data b1 a1 h5 h4 (by omega) ⟨.bl _, H, I, rfl, k⟩
theorem nonR_is : nonR r = isNon r := by
  cases r with
  | im d => cases d <;> rfl
  | ow m => rfl
  | vo m => rfl
theorem omap_some {α β : Type} {f : α → β} {o : Option α} {b : β} (h : o.map f = some b) : ∃ a, o = some a ∧ f a = b := by
  cases o with
  | none => cases h
  | some a => exact ⟨a, rfl, Option.some.inj h⟩
theorem obind_some {α β : Type} {f : α → Option β} {o : Option α} {b : β} (h : o.bind f = some b) : ∃ a, o = some a ∧ f a = some b := by
  cases o with
  | none => cases h
  | some a => exact ⟨a, rfl, h⟩
theorem eqR_ok (hu : X.A.units + 100 < cLine) {b : Bool} (h : eqR ra rb = some b) : OpOk X ι (compareOp .Eq) ra rb (.im (.bl b)) := by
  obtain ⟨p, e1, h⟩ := obind_some h
  obtain ⟨q, e2, h⟩ := obind_some h
  obtain ⟨hd, h⟩ := gd_some h
  subst h
  refine ⟨_, op_eqP (by omega), fun H x y Q h1 h2 k => ?_⟩
  obtain ⟨d1, p1⟩ := look_dp e1 h1
  obtain ⟨d2, p2⟩ := look_dp e2 h2
  exact ⟨p, q, d1, d2, p1, p2, hd, k _ H (Same.refl _) (.bl _)⟩
theorem neR_ok (hu : X.A.units + 100 < cLine) {b : Bool} (h : eqR ra rb = some b) : OpOk X ι (compareOp .NotEq) ra rb (.im (.bl (!b))) := by
  obtain ⟨p, e1, h⟩ := obind_some h
  obtain ⟨q, e2, h⟩ := obind_some h
  obtain ⟨hd, h⟩ := gd_some h
  subst h
  refine ⟨_, op_neP (by omega), fun H x y Q h1 h2 k => ?_⟩
  obtain ⟨d1, p1⟩ := look_dp e1 h1
  obtain ⟨d2, p2⟩ := look_dp e2 h2
  exact ⟨p, q, d1, d2, p1, p2, hd, k _ H (Same.refl _) (.bl _)⟩
theorem inR_ok' (neg : Bool) (hu : X.A.units + 100 < cLine) {b : Bool} (h : inR ra rb = some b) : OpOk X ι (compareOp (if neg then .NotIn else .In)) ra rb (.im (.bl (if neg then !b else b))) := by
  unfold inR at h
  split at h
  · rename_i x z
    obtain ⟨hl, h⟩ := gd_some h
    subst h
    obtain ⟨c, rfl⟩ : ∃ c, x = ⟨#[c]⟩ := by
      obtain ⟨a⟩ := x
      obtain ⟨l⟩ := a
      have hl' : l.length = 1 := hl
      match l, hl' with
      | [c], _ => exact ⟨c, rfl⟩
    have e : (z.cps.toList.contains ((⟨#[c]⟩ : Str).cps.toList.headD 0)) = decide (c ∈ z.cps.toList) := by
      show z.cps.toList.contains c = _
      rw [Bool.eq_iff_iff]
      simp
    rw [e]
    cases neg with
    | false => exact ⟨_, op_in_sign, fun H a b Q h1 h2 q => ⟨c, z, h1.str, h2.str, q _ H (Same.refl _) (.bl _)⟩⟩
    | true => exact ⟨_, op_notIn_sign, fun H a b Q h1 h2 q => ⟨c, z, h1.str, h2.str, q _ H (Same.refl _) (.bl _)⟩⟩
  · obtain ⟨p, e1, h⟩ := obind_some h
    obtain ⟨qs, e2, h⟩ := obind_some h
    obtain ⟨hd, h⟩ := gd_some h
    subst h
    refine ⟨_, op_inP (neg := neg) (by omega), fun H x y Q h1 h2 k => ?_⟩
    obtain ⟨d1, p1⟩ := look_dp e1 h1
    obtain ⟨ds, e3, e4⟩ := obind_some e2
    obtain ⟨a, vs, e5, e6, e7⟩ := h2.seq (seq_of e3)
    exact ⟨a, vs, p, qs, d1, e5, e6, reps_dp e4 e7, p1, pys_plain e4, hd, k _ H (Same.refl _) (.bl _)⟩
theorem inR_ok (hu : X.A.units + 100 < cLine) {b : Bool} (h : inR ra rb = some b) : OpOk X ι (compareOp .In) ra rb (.im (.bl b)) := inR_ok' false hu h
theorem notinR_ok (hu : X.A.units + 100 < cLine) {b : Bool} (h : inR ra rb = some b) : OpOk X ι (compareOp .NotIn) ra rb (.im (.bl (!b))) := inR_ok' true hu h
theorem cmpR_ok (hu : X.A.units + 100 < cLine) {op : CmpOp} {b : Bool} (h : cmpR op ra rb = some b) : OpOk X ι (compareOp op) ra rb (.im (.bl b)) := by
  unfold cmpR at h
  split at h
  · cases h; exact cmp_lt
  · cases h; exact cmp_le
  · cases h; exact cmp_gt
  · cases h; exact cmp_ge
  · exact eqR_ok hu h
  · obtain ⟨a, e, q⟩ := omap_some h; subst q; exact neR_ok hu e
  · cases h; rw [nonR_is]; exact cmp_is
  · cases h; rw [nonR_is]; exact cmp_isnot
  · exact inR_ok hu h
  · obtain ⟨a, e, q⟩ := omap_some h; subst q; exact notinR_ok hu e
  · cases h
theorem ixR_ok (h : ixR ra rb = some rr) : IxOk X ι ra rb rr := by
  unfold ixR at h
  split at h
  · split at h
    · obtain ⟨a, e, q⟩ := omap_some h; subst q; exact ix_tupD e
    · split at h
      · obtain ⟨a, e, q⟩ := omap_some h; subst q; exact ix_strD ‹_› e
      · cases h
    · split at h
      · rename_i e1
        obtain ⟨a, e, q⟩ := omap_some h; subst q; exact ix_lst (lsq_of e1) e
      · cases h
  · cases h
theorem slR_ok {lo hi : Option Int} (h : slR ra lo hi = some rr) : SlOk X ι ra lo hi rr := by
  unfold slR at h
  split at h
  · cases h; exact sl_tupD
  · split at h
    · cases h; exact sl_strD ‹_›
    · cases h
  · split at h
    · rename_i e1
      cases h; exact sl_lst (lsq_of e1)
    · cases h
theorem ints_of : ∀ {ds : List D} {ns : List Int}, intsD ds = some ns → ds = ns.map D.int
  | [], _, h => by cases h; rfl
  | .int i :: ds, ns, h => by
    obtain ⟨a, e, q⟩ := omap_some (show (intsD ds).map (i :: ·) = some ns from h)
    subst q
    rw [ints_of e]; rfl
  | .non :: _, _, h => by cases h
  | .bl _ :: _, _, h => by cases h
  | .str _ :: _, _, h => by cases h
  | .tup _ :: _, _, h => by cases h
  | .lst _ :: _, _, h => by cases h
  | .dic _ :: _, _, h => by cases h
  | .klst _ :: _, _, h => by cases h
  | .ins _ _ :: _, _, h => by cases h
  | .ref _ :: _, _, h => by cases h
  | .ty _ :: _, _, h => by cases h
theorem bls_of : ∀ {ds : List D} {ns : List Bool}, blsD ds = some ns → ds = ns.map D.bl
  | [], _, h => by cases h; rfl
  | .bl i :: ds, ns, h => by
    obtain ⟨a, e, q⟩ := omap_some (show (blsD ds).map (i :: ·) = some ns from h)
    subst q
    rw [bls_of e]; rfl
  | .non :: _, _, h => by cases h
  | .int _ :: _, _, h => by cases h
  | .str _ :: _, _, h => by cases h
  | .tup _ :: _, _, h => by cases h
  | .lst _ :: _, _, h => by cases h
  | .dic _ :: _, _, h => by cases h
  | .klst _ :: _, _, h => by cases h
  | .ins _ _ :: _, _, h => by cases h
  | .ref _ :: _, _, h => by cases h
  | .ty _ :: _, _, h => by cases h
/-- a built-in's own value -/
def Bi.val : Bi → Value
  | .len => .builtin "len" | .abs => .builtin "abs" | .max2 => .builtin "max" | .min2 => .builtin "min" | .sum => .builtin "sum" | .all => .builtin "all" | .any => .builtin "any" | .divmod => .builtin "divmod"
  | .int => .type "int" | .str => .type "str" | .tuple => .type "tuple" | .list => .type "list" | .min => .builtin "min" | .srtset => .builtin "sorted"
theorem c_minD {ps : List PyData} {d : D} (hc : X.calm = true) (hu : X.A.units + 100 < cLine) (l : LstR ds r) (hp : pyDs ds = some ps) (ha : ∀ i j, i < ps.length → j < ps.length → PySem.W.alike (ps.getD i .none) (ps.getD j .none) = true) (hd : ∀ p ∈ ps, p ≠ .none ∧ p.depth ≤ 64) (e : ds[DLX.leastAt ps]? = some d) :
    CallOk X ι (.builtin "min") [r] (.im d) := ⟨_, DLX.cr_minD hc (by omega), fun H vs Q h q => by
  cases h with
  | cons r1 h =>
    cases h
    obtain ⟨a, vs, e1, x1, x2⟩ := r1.lst l
    subst e1
    obtain ⟨v, e2, rv⟩ := x2.get e
    exact ⟨a, vs, ps, v, rfl, x1, reps_dp hp x2, ha, hd, e2, q _ H (Same.refl _) rv⟩⟩
theorem biR_ok {f : Bi} {rs : List R} (hc : X.calm = true) (hu : X.A.units + 100 < cLine) (h : biR f rs = some rr) : CallOk X ι f.val rs rr := by
  unfold biR at h
  split at h
  · obtain ⟨h1, e⟩ := gd_some h; subst e; exact c_len_str h1
  · obtain ⟨a, e, q⟩ := omap_some h; subst q; exact c_len_seq (seq_of e)
  · cases h; exact c_abs
  · cases h; exact c_max2 hc
  · cases h; exact c_min2 hc
  · split at h
    · rename_i e1
      obtain ⟨a, e, q⟩ := omap_some h; subst q
      exact c_sum hc (by rw [← ints_of e]; exact lst_of e1)
    · cases h
  · split at h
    · rename_i e1
      obtain ⟨a, e, q⟩ := omap_some h; subst q
      exact c_all hc (by rw [← bls_of e]; exact lst_of e1)
    · cases h
  · split at h
    · rename_i e1
      obtain ⟨a, e, q⟩ := omap_some h; subst q
      exact c_any hc (by rw [← bls_of e]; exact lst_of e1)
    · cases h
  · obtain ⟨h1, e⟩ := gd_some h; subst e; exact c_divmod h1
  · cases h; exact c_int_int
  · cases h; exact c_int_bl
  · obtain ⟨h1, e⟩ := gd_some h; subst e; exact c_str_int h1
  · obtain ⟨a, e, q⟩ := omap_some h; subst q; exact c_tuple (seq_of e)
  · obtain ⟨a, e, q⟩ := omap_some h; subst q; exact c_list (seq_of e)
  · obtain ⟨ds, e1, h⟩ := obind_some h
    obtain ⟨ps, e2, h⟩ := obind_some h
    split at h
    · rename_i q
      obtain ⟨d, e3, e4⟩ := omap_some h
      subst e4
      exact c_minD hc hu (lst_of e1) e2 q.1 q.2 e3
    · cases h
  · cases h
end
end DL
/-! DL, part w: == of own classes, isinstance, min of data. -/
namespace DL
open PySem PySem.Spec L2
section
variable {X : Cx} {ι : Addr → Nat → Prop} {Γ : List Slot} {a b : Expr} {pos : Pos} {K : PySem.W.Frag} {H : Hp}
theorem op_eqOwn {k : Nat} {C f : Addr} {fd : FuncData} {ps : List Str} {sp : Sp} {E : XK} (F : FnOk X.prog X.w X.K X.mg X.base (L2.CX X.prog X.w) k f fd ps sp) (hs : PySem.W.findIn X.K (.ref C) "__eq__" = some (some (.ref f))) (hf : PySem.W.isFn X.K (.ref f) = true)
    (hb : Binds X.K fd ps []) (hr : Room k X.A) (hx : Passes (L2.CX X.prog X.w) X E) : OpR X (compareOp .Eq) (fun x y H Q => ∃ a b dx dy fs gs, x = .ref a ∧ y = .ref b ∧ H a = some (.ins C dx fs) ∧ H b = some (.ins C dy gs) ∧ sp [.ref a, .ref b] H (fun v H' => ∃ t : Bool, v = .bl t ∧ Q v H') E) := by
  rintro pins s σ H x y v u Q I rx ry ⟨p, q, dx, dy, fs, gs, rfl, rfl, h1, h2, hsp⟩
  cases rx
  cases ry
  obtain ⟨_, J1, _⟩ := ins_get I.hok h1
  obtain ⟨_, J2, _⟩ := ins_get I.hok h2
  obtain ⟨_, J1, _⟩ := J1.look
  obtain ⟨_, J2, _⟩ := J2.look
  obtain ⟨_, hF⟩ := I.fr
  show wpAny (model X.prog X.w) X.A (richCompare .Eq (.ref p) (.ref q)) (EP X pins σ Q) X.xe s
  refine PySem.W.cmp_K (op := .Eq) (tb := .ref C) hr.units0 hF I.ok.mod.kin J1 J2.type (by simp [PySem.W.notFirst]) hs hf ?_
  have hl := F.len _ _ _ _ hsp
  refine wpAny_call (codeAny_mono (F.run X.A X.stack s H ⟨[.ref p, .ref q], []⟩ [.ref p, .ref q] [.ref p, .ref q] _ E hr I.env0 (by
    have := hb s [.ref p, .ref q] I.kIn (by simpa using hl)
    simpa using this) (.cons rfl (.cons rfl .nil)) hsp) fun r s' hq => ?_)
  cases r with
  | error e => exact hx pins σ H s e s' I hq
  | ok fl =>
    cases fl with
    | ret w =>
      obtain ⟨z, H', I', rz, t, ez, qz⟩ := I.after hq
      subst ez
      cases rz
      exact ⟨.bl t, H', I', rfl, qz⟩
    | next => exact False.elim hq
    | brk => exact False.elim hq
    | cont => exact False.elim hq
theorem oeq_ok {k : Nat} {F : FR} {C : Addr} {fl gl : List (Str × D)} {q : Bool} {fs : List Slot} (G : MethAt X.prog X.w X.K X.mg X.base ι k C "__eq__" 2 F) (hr : Room k X.A) (hF : F [.im (.ins C fl), .im (.ins C gl)] (.ret (.im (.bl q)) fs)) :
    OpOk X ι (compareOp .Eq) (.im (.ins C fl)) (.im (.ins C gl)) (.im (.bl q)) := by
  obtain ⟨f, fd, ps, Fo, hm, hb, hpn⟩ := G.ex
  refine ⟨_, op_eqOwn Fo hm.1 hm.2 hb hr passL, fun H x y Q h1 h2 k => ?_⟩
  obtain ⟨p, dx, fs1, e1, a1, b1⟩ := RV.ins h1 .im
  obtain ⟨p2, dy, fs2, e2, a2, b2⟩ := RV.ins h2 .im
  subst e1 e2
  refine ⟨p, p2, dx, dy, fs1, fs2, rfl, rfl, a1, a2, rfl, _, _, hF, args_im (ds := [.ins C fl, .ins C gl]) (.cons h1 (.cons h2 .nil)), fun v H' hp hv => ?_⟩
  have hv' : Rep X.K ι H' (.bl q) v := hv
  cases hv'
  exact ⟨q, rfl, k _ H' (fun b o e => hp.keep b o e (.inr fun i h => (no_mu (ds := [.ins C fl, .ins C gl]) h).elim)) (.bl q)⟩
/-- isinstance -/
def tyN : Ty → Value
  | .int => .type "int" | .bool => .type "bool" | .str => .type "str" | .tuple => .type "tuple" | .list => .type "list" | .dict => .type "dict" | .cls _ => .none
structure IsC (K : PySem.W.Frag) (C : Addr) : Prop where
  cl : Cls K C
  ha : PySem.W.findIn K (.ref C) "__class__" = some (some (.builtin "object.__class__"))
  hn : PySem.W.specialIn K (.builtin "object.__class__") "__get__" = some (some (.builtin "getset_descriptor.__get__"))
  htk : PySem.W.takesIn K (.builtin "object.__class__") = some true
  hm : PySem.W.mroIn K C (.type "object") = some true
theorem ty_lst {p : Addr} {vs : List V} (h : FzS K H p vs) : TyX K H (.ref p) (.type "list") := by
  rcases h with ⟨o, h⟩ | ⟨o, its, n, h1, h2, _⟩
  · exact .base (.frz h)
  · exact .kList h1 h2
theorem ty_tup {p : Addr} {vs : List V} (h : SqT K H p vs) : TyX K H (.ref p) (.type "tuple") := by
  rcases h with (h | ⟨o, h⟩) | ⟨o, its, n, h1, h2, _⟩
  · exact .base (.tup h)
  · exact .fTuple h
  · exact .kTuple h1 h2
theorem isi_kit {cls : Nat → Addr} {d : D} {t : Ty} {b : Bool} {v : V} (h : isiD cls d t = some b) (hb : ∀ j, t ≠ .cls j) (r : Rep K ι H d v) : ∃ tv, TyX K H v tv ∧ PySem.W.kitOne K tv (tyN t) = some b := by
  cases t with
  | cls j => exact absurd rfl (hb j)
  | dict => cases d <;> cases h
  | int =>
    cases d <;> first | (cases h; done) | skip
    all_goals cases r
    · cases h; exact ⟨_, .base .non, rfl⟩
    · cases h; exact ⟨_, .base (.bl _), rfl⟩
    · cases h; exact ⟨_, .base (.int _), rfl⟩
    · cases h; exact ⟨_, .base (.str _), rfl⟩
    · cases h; exact ⟨_, ty_tup ‹_›, rfl⟩
    · cases h; exact ⟨_, ty_lst (.inl ‹_›), rfl⟩
  | bool =>
    cases d <;> first | (cases h; done) | skip
    all_goals cases r
    · cases h; exact ⟨_, .base .non, rfl⟩
    · cases h; exact ⟨_, .base (.bl _), rfl⟩
    · cases h; exact ⟨_, .base (.int _), rfl⟩
    · cases h; exact ⟨_, .base (.str _), rfl⟩
    · cases h; exact ⟨_, ty_tup ‹_›, rfl⟩
    · cases h; exact ⟨_, ty_lst (.inl ‹_›), rfl⟩
  | str =>
    cases d <;> first | (cases h; done) | skip
    all_goals cases r
    · cases h; exact ⟨_, .base .non, rfl⟩
    · cases h; exact ⟨_, .base (.bl _), rfl⟩
    · cases h; exact ⟨_, .base (.int _), rfl⟩
    · cases h; exact ⟨_, .base (.str _), rfl⟩
    · cases h; exact ⟨_, ty_tup ‹_›, rfl⟩
    · cases h; exact ⟨_, ty_lst (.inl ‹_›), rfl⟩
  | tuple =>
    cases d <;> first | (cases h; done) | skip
    all_goals cases r
    · cases h; exact ⟨_, .base .non, rfl⟩
    · cases h; exact ⟨_, .base (.bl _), rfl⟩
    · cases h; exact ⟨_, .base (.int _), rfl⟩
    · cases h; exact ⟨_, .base (.str _), rfl⟩
    · cases h; exact ⟨_, ty_tup ‹_›, rfl⟩
    · cases h; exact ⟨_, ty_lst (.inl ‹_›), rfl⟩
  | list =>
    cases d <;> first | (cases h; done) | skip
    all_goals cases r
    · cases h; exact ⟨_, .base .non, rfl⟩
    · cases h; exact ⟨_, .base (.bl _), rfl⟩
    · cases h; exact ⟨_, .base (.int _), rfl⟩
    · cases h; exact ⟨_, .base (.str _), rfl⟩
    · cases h; exact ⟨_, ty_tup ‹_›, rfl⟩
    · cases h; exact ⟨_, ty_lst (.inl ‹_›), rfl⟩
theorem c_isi {cls : Nat → Addr} {d : D} {t : Ty} {b : Bool} {tn : String} (h : isiD cls d t = some b) (hb : ∀ j, t ≠ .cls j) (e : tyN t = .type tn) : CallOk X ι (.builtin "isinstance") [.im d, .im (.ty tn)] (.im (.bl b)) := by
  refine ⟨_, call_isi, fun H vs Q hv k => ?_⟩
  cases hv with
  | cons r1 hv =>
    cases hv with
    | cons r2 hv =>
      cases hv
      cases r2
      obtain ⟨tv, t1, t2⟩ := isi_kit h hb r1
      rw [e] at t2
      exact ⟨_, _, _, _, _, rfl, .ty tn, t1, t2, k _ H (Same.refl _) (.bl _)⟩
theorem c_isiO {cls : Nat → Addr} {ds : List D} {t : Ty} {b : Bool} {tn : String} (h : isiD cls (.lst ds) t = some b) (hb : ∀ j, t ≠ .cls j) (e : tyN t = .type tn) : CallOk X ι (.builtin "isinstance") [.vo (.lst ds), .im (.ty tn)] (.im (.bl b)) := by
  refine ⟨_, call_isi, fun H vs Q hv k => ?_⟩
  cases hv with
  | cons r1 hv =>
    cases hv with
    | cons r2 hv =>
      cases hv
      cases r2
      obtain ⟨p, e1, us, e2, e3⟩ := r1
      subst e1
      have kt : PySem.W.kitOne X.K (.type "list") (tyN t) = some b := by
        cases t <;> first | (exact absurd rfl (hb _)) | (cases h; rfl) | (cases h; done)
      rw [e] at kt
      exact ⟨_, _, _, _, _, rfl, .ty tn, .base (.lst e2), kt, k _ H (Same.refl _) (.bl _)⟩
theorem c_isiC {C : Addr} {fs : List (Str × D)} (ic : IsC X.K C) : CallOk X ι (.builtin "isinstance") [.im (.ins C fs), .im (.ref C)] (.im (.bl true)) := by
  refine ⟨_, call_isi, fun H vs Q hv k => ?_⟩
  cases hv with
  | cons r1 hv =>
    cases hv with
    | cons r2 hv =>
      cases hv
      cases r2
      obtain ⟨p, dx, fs', e1, a1, b1⟩ := RV.ins (r := .im (.ins C fs)) r1 .im
      subst e1
      refine ⟨_, _, _, _, true, rfl, .own C, .base (.ins a1 ic.cl ic.ha ic.hn ic.htk ic.hm), ?_, k _ H (Same.refl _) (.bl _)⟩
      unfold PySem.W.kitOne
      simp
end
end DL
/-! DL, part z: dicts of the written part, keys texts. -/
namespace DL
open PySem PySem.Spec L2
inductive Ents (K : PySem.W.Frag) (ι : Addr → Nat → Prop) : List DictEntry → List (Str × D) → Prop
  | nil : Ents K ι [] []
  | cons {e : DictEntry} {x : Str} {dd : D} {es : List DictEntry} {kvs : List (Str × D)} : (∃ t, e.key = .str x t) → (∃ v, RelV v e.val ∧ ∀ H, Rep K ι H dd v) → Ents K ι es kvs → Ents K ι (e :: es) ((x, dd) :: kvs)
structure KdOk (K : PySem.W.Frag) (w : World) (ι : Addr → Nat → Prop) (d : Addr) (kvs : List (Str × D)) : Prop where
  ex : ∃ es n, KDict K w d es n ∧ Ents K ι es.toList kvs
  nd : (kvs.map (·.1)).Nodup
section
variable {X : Cx} {ι : Addr → Nat → Prop} {K : PySem.W.Frag} {H : Hp} {ra : R}
theorem ents_find {z : Str} : ∀ {es : List DictEntry} {kvs : List (Str × D)}, Ents K ι es kvs →
    (∀ dd, kvs.lookup z = some dd → ∃ e, es.find? (·.key.isStr z) = some e ∧ ∃ v, RelV v e.val ∧ ∀ H, Rep K ι H dd v) ∧ (kvs.lookup z = none → es.find? (·.key.isStr z) = none) ∧ es.any (·.refKey) = false
  | _, _, .nil => ⟨fun dd h => (by cases h), fun _ => rfl, rfl⟩
  | _, _, .cons (e := e) (x := x) (dd := d0) (es := es) (kvs := kvs) h1 h2 h3 => by
    obtain ⟨t, ek⟩ := h1
    obtain ⟨i1, i2, i3⟩ := ents_find (z := z) h3
    have is : e.key.isStr z = (x == z) := by rw [ek]; rfl
    refine ⟨fun dd h => ?_, fun h => ?_, ?_⟩
    · rw [List.lookup_cons] at h
      rw [List.find?_cons, is]
      by_cases q : z = x
      · subst q
        simp only [beq_self_eq_true] at h ⊢
        cases h
        exact ⟨e, rfl, h2⟩
      · have q1 : (z == x) = false := beq_eq_false_iff_ne.mpr q
        have q2 : (x == z) = false := beq_eq_false_iff_ne.mpr (Ne.symm q)
        rw [q1] at h
        rw [q2]
        exact i1 dd h
    · rw [List.lookup_cons] at h
      rw [List.find?_cons, is]
      by_cases q : z = x
      · subst q
        simp at h
      · have q1 : (z == x) = false := beq_eq_false_iff_ne.mpr q
        have q2 : (x == z) = false := beq_eq_false_iff_ne.mpr (Ne.symm q)
        rw [q1] at h
        rw [q2]
        exact i2 h
    · rw [List.any_cons, i3, Bool.or_false]
      unfold DictEntry.refKey
      rw [ek]
theorem ns_some {w : World} {d : Addr} {kvs : List (Str × D)} {z : Str} {dd : D} (h : KdOk K w ι d kvs) (e : kvs.lookup z = some dd) : ∃ u v, PySem.W.nsIn K d z = some (some u) ∧ RelV v u ∧ ∀ H, Rep K ι H dd v := by
  obtain ⟨es, n, kd, en⟩ := h.ex
  obtain ⟨i1, _, _⟩ := ents_find (z := z) en
  obtain ⟨e1, f, v, r1, r2⟩ := i1 dd e
  refine ⟨e1.val, v, ?_, r1, r2⟩
  unfold PySem.W.nsIn
  rw [kd.at_]
  dsimp only
  rw [f]
theorem ns_none {w : World} {d : Addr} {kvs : List (Str × D)} {z : Str} (h : KdOk K w ι d kvs) (e : kvs.lookup z = none) : PySem.W.nsIn K d z = some none := by
  obtain ⟨es, n, kd, en⟩ := h.ex
  obtain ⟨_, i2, i3⟩ := ents_find (z := z) en
  unfold PySem.W.nsIn
  rw [kd.at_]
  dsimp only
  rw [i2 e, i3]
  rfl
theorem kin_ok {neg : Bool} {d : Addr} {kvs : List (Str × D)} {z : Str} (h : KdOk X.K X.w ι d kvs) : OpOk X ι (compareOp (if neg then .NotIn else .In)) (.im (.str z)) (.im (.ref d)) (.im (.bl (if neg then !(kvs.lookup z).isSome else (kvs.lookup z).isSome))) := by
  have key : ∃ r : Option Value, PySem.W.nsIn X.K d z = some r ∧ r.isSome = (kvs.lookup z).isSome := by
    cases e : kvs.lookup z with
    | none => exact ⟨none, ns_none h e, rfl⟩
    | some dd => obtain ⟨u, v, h1, _⟩ := ns_some h e; exact ⟨some u, h1, rfl⟩
  obtain ⟨r, h1, h2⟩ := key
  rw [← h2]
  obtain ⟨es, n, kd, en⟩ := h.ex
  cases neg with
  | false => exact ⟨_, op_in_kd kd, fun H x y Q a b k => by cases b; exact ⟨z, r, a.str, rfl, h1, k _ H (Same.refl _) (.bl _)⟩⟩
  | true => exact ⟨_, op_notIn_kd kd, fun H x y Q a b k => by cases b; exact ⟨z, r, a.str, rfl, h1, k _ H (Same.refl _) (.bl _)⟩⟩
theorem kget_ok {d : Addr} {kvs : List (Str × D)} {z : Str} {dd : D} (h : KdOk X.K X.w ι d kvs) (e : kvs.lookup z = some dd) : IxOk X ι (.im (.ref d)) (.im (.str z)) (.im dd) := by
  obtain ⟨u, v, h1, h2, h3⟩ := ns_some h e
  obtain ⟨es, n, kd, en⟩ := h.ex
  exact ⟨_, ix_kdict, fun H x y Q a b k => by cases a; exact ⟨d, z, v, rfl, b.str, ⟨es, n, u, kd.at_, kd.lit, h1, h2⟩, k _ H (Same.refl _) (h3 H)⟩⟩
/-! ### for k in d -/
def ItW (kvs : List (Str × D)) : It := ⟨fun i _ => i < kvs.length, fun i H x H' => H' = H ∧ ∃ p, kvs[i]? = some p ∧ x = .str p.1, fun i _ => kvs.length ≤ i⟩
theorem ents_pairs {P : Program} {w : World} : ∀ {es : List DictEntry} {kvs : List (Str × D)}, Ents K ι es kvs → Pairs (strKind P w) es (List.zipWith (fun (e : DictEntry) (p : Str × D) => (p.1, e.val)) es kvs) ∧ es.length = kvs.length ∧ (List.zipWith (fun (e : DictEntry) (p : Str × D) => (p.1, e.val)) es kvs).map (·.1) = kvs.map (·.1)
  | _, _, .nil => ⟨.nil, rfl, rfl⟩
  | _, _, .cons (e := e) (x := x) h1 _ h3 => by
    obtain ⟨t, ek⟩ := h1
    obtain ⟨i1, i2, i3⟩ := ents_pairs (P := P) (w := w) h3
    refine ⟨.cons (by rw [ek]; exact strKind_is P w x t) rfl i1, by rw [List.length_cons, List.length_cons, i2], ?_⟩
    rw [List.zipWith_cons_cons, List.map_cons, List.map_cons, i3]
theorem kd_at {w : World} {P : Program} {h : Heap} {d : Addr} {kvs : List (Str × D)} {es : Array DictEntry} {n : Nat} (X : K.In h) (kd : KDict K w d es n) (en : Ents K ι es.toList kvs) (nd : (kvs.map (·.1)).Nodup) :
    h.DictAt (strKind P w) d (List.zipWith (fun (e : DictEntry) (p : Str × D) => (p.1, e.val)) es.toList kvs) n := by
  obtain ⟨i1, i2, i3⟩ := ents_pairs (P := P) (w := w) en
  refine ⟨_, es, X _ _ kd.at_, ⟨rfl, rfl, rfl⟩, rfl, fun e he => ?_, i1, by rw [i3]; exact nd⟩
  obtain ⟨x, t, e1, e2⟩ := kd.lit.all e (Array.mem_toList_iff.mpr he)
  exact ⟨x, by rw [e1]; exact strKind_is P w x t, e2⟩
theorem turn_kd {P : Program} {w : World} {tg : Expr} {d : Addr} {kvs : List (Str × D)} {es : Array DictEntry} {n : Nat} (it : Addr) (kd : KDict K w d es n) (en : Ents K ι es.toList kvs) (nd : (kvs.map (·.1)).Nodup) :
    Turn P w K tg (ItW kvs) [it] it (fun i h => h.IsKeyIter it d i kvs.length n) where
  mem := by simp
  obj := fun i h st b hb => by
    cases List.mem_singleton.mp hb
    obtain ⟨oi, e, c, dd⟩ := st
    exact ⟨oi, e, fun v z => by rw [dd] at z; cases z⟩
  keep := fun i h h' st k => let ⟨oi, e, c⟩ := st; ⟨oi, k it (by simp) oi e, c⟩
  item := by
    intro X hP hw hK hc i pins s σ H E I hf st hg
    subst hP hw hK
    have hi : i < kvs.length := hg
    obtain ⟨f0, f1, f2, f3, f4, f5⟩ := hf it (by simp)
    have hm := kd_at (P := X.prog) I.kIn kd en nd
    obtain ⟨i1, i2, i3⟩ := ents_pairs (P := X.prog) (w := X.w) en
    have hl : (List.zipWith (fun (e : DictEntry) (p : Str × D) => (p.1, e.val)) es.toList kvs).length = kvs.length := by rw [List.length_zipWith, i2, Nat.min_self]
    have hi2 : i < es.toList.length := by omega
    have hx : (List.zipWith (fun (e : DictEntry) (p : Str × D) => (p.1, e.val)) es.toList kvs)[i]? = some (kvs[i].1, es.toList[i].val) := by
      rw [List.getElem?_zipWith, List.getElem?_eq_getElem hi, List.getElem?_eq_getElem hi2]
    rw [← hl] at st
    refine wpAny_pyNext_dict_item st hm hx fun key h' hkey st' sb => ?_
    have I1 : Inv X pins σ H { s with heap := h' } := I.turned (t' := s.toks) (fun b ob hb e => (sb.2 b hb).trans e) f0 f1 f3 f4 f5
    obtain ⟨oi, e, c, dd⟩ := id st'
    refine ⟨key, rfl, go_of (s := { s with heap := h' }) e c dd (by decide) ⟨.str kvs[i].1, H, I1, ?_, ⟨rfl, kvs[i], List.getElem?_eq_getElem hi, rfl⟩, ?_, fun b hb => (hf b hb).1⟩⟩
    · obtain ⟨t, ht⟩ := Value.isStrOf_shape hkey
      exact ⟨t, ht⟩
    · show h'.IsKeyIter it d (i + 1) kvs.length _
      rw [← hl]
      exact st'
  done := by
    intro X hP hw hK hc i pins s σ H E I hf st hg
    subst hP hw hK
    have hi : kvs.length ≤ i := hg
    obtain ⟨f0, f1, f2, f3, f4, f5⟩ := hf it (by simp)
    obtain ⟨i1, i2, i3⟩ := ents_pairs (P := X.prog) (w := X.w) en
    exact next_key_end (I.ok.hd hc) st (I.kIn _ _ kd.at_) rfl (by rw [← i2]; exact Array.length_toList.symm) hi fun h' eb => ⟨rfl, I.turned (t' := s.toks) (fun b ob hb e => eb b ob hb e) f0 f1 f3 f4 f5⟩
  self := fun A i s Q E st h => wpAny_pyIter_keyiter st h
/-- the keys, walked -/
theorem ei_kd {Γ : List Slot} {tg it : Expr} {d : Addr} {kvs : List (Str × D)} (h : KdOk X.K X.w ι d kvs) (he : Ep X ι Γ it (.im (.ref d))) : Ei X ι Γ tg it (kvs.map fun p => D.str p.1) := by
  obtain ⟨es, n, kd, en⟩ := h.ex
  obtain ⟨i1, i2, i3⟩ := ents_pairs (P := X.prog) (w := X.w) en
  refine ⟨fun σ H R => WE X it σ H fun v H1 => v = .ref d ∧ R (ItW kvs) H1, ⟨fun pins s σ H R I hw => ?_⟩, fun σ H R g q => ?_⟩
  · refine thn (hw pins s I) fun u s1 ⟨v, H1, I1, rv, ev, k⟩ => ?_
    subst ev
    cases rv
    refine iter_keys kd.low (I1.kIn _ _ kd.at_) ⟨rfl, rfl, rfl⟩ rfl (pi_one (tk := s1.toks) I1 _ (turn_kd _ kd en h.nd) ⟨_, Heap.get?_push_size _ rfl, rfl, ?_⟩ k)
    rw [← i2, Array.length_toList]
    rfl
  · refine (he σ H g).mono fun v H1 ⟨s1, r1⟩ => ?_
    cases r1
    refine ⟨rfl, q _ (fun _ => True) H1 s1 trivial ⟨fun _ _ _ _ => trivial, ?_⟩⟩
    rw [List.length_map]
    exact ⟨fun i H z _ => z, fun H _ => Nat.le_refl kvs.length, fun i H x H' _ _ y => by
      obtain ⟨e, p, e1, e2⟩ := y
      subst e e2
      exact ⟨Same.refl _, .str p.1, by rw [List.getElem?_map, e1]; rfl, .str _⟩⟩
end
end DL
/-! DL, part k2: calls by keywords alone. -/
namespace DL
open PySem PySem.Spec L2
def kg {α : Type} (perm : List Nat) (z : α) (us ws : List α) : List α := if us.length = 0 ∧ ws.length = perm.length then perm.map fun i => ws.getD i z else []
section
variable {X : Cx} {ι : Addr → Nat → Prop} {Γ : List Slot} {sc : Scope} {N : List Str}
theorem pe_kw0 {CX : CXT} {k : Nat} {f : Addr} {fd : FuncData} {ps ks : List Str} {sp : Sp} {E : XK} {x : Str} {p pos : Pos} {kws : List Keyword} {tk : TA} {g : List Value → List Value → List Value} {gV : List V → List V → List V}
    (F : FnOk X.prog X.w X.K X.mg X.base CX k f fd ps sp) (hr : Room k X.A) (hg : Gl X x) (hm : X.mg x = some (.ref f)) (hk : PySem.W.keepIn X.K (.ref f) = true) (hb : KBinds X.K fd ps ks g gV) (hx : Passes CX X E) (hkw : PK X kws tk)
    (hall : (backToKw pos (keywordEach kws X.env)).all (·.1.isSome) = true) (hks : (backToKw pos (keywordEach kws X.env)).filterMap (·.1) = ks) (hdb : (x == ("__debug__" : Str)) = false)
    (hpl : ((backTo pos (starEach [] X.env)).any (·.1) || (backToKw pos (keywordEach kws X.env)).any (·.1.isNone)) = false) : L2.PE X (.Call (.Name x p) [] kws pos) (fun σ H Q => tk σ H fun zs H2 => sp (gV [] zs) H2 Q E) := by
  refine ⟨fun pins s σ H Q I h => ?_⟩
  refine wpAny_Call_Name_kw (ld_glob I hg hm ?_ hdb)
  refine PySem.W.callWith_KW0 (h₀ := X.base) I.ok.mod.kin hk hall (thn (hkw.run pos pins s σ H _ I h) fun ws s2 ⟨zs, H2, I2, rz, q2⟩ => ⟨I2.kIn, ?_⟩) hpl
  rw [hks]
  exact run_fnk F hr hb hx I2 .nil rz q2
theorem kw_all {env : Env} {pos : Pos} : ∀ {kws : List Keyword} {ks : List Str}, kws.map (·.arg) = ks.map some → (backToKw pos (keywordEach kws env)).all (·.1.isSome) = true ∧ (backToKw pos (keywordEach kws env)).filterMap (·.1) = ks ∧ (backToKw pos (keywordEach kws env)).any (·.1.isNone) = false
  | [], [], _ => ⟨rfl, rfl, rfl⟩
  | [], _ :: _, h => by cases h
  | _ :: _, [], h => by cases h
  | ⟨a, e, kp⟩ :: kws, k :: ks, h => by
    rw [List.map_cons, List.map_cons] at h
    injection h with h1 h2
    obtain ⟨i1, i2, i3⟩ := kw_all (env := env) (pos := pos) h2
    have h1 : a = some k := h1
    subst h1
    have e : backToKw pos (keywordEach (⟨some k, e, kp⟩ :: kws) env) = (some k, do let v ← eval e env; standAt pos; pure v) :: backToKw pos (keywordEach kws env) := rfl
    rw [e]
    refine ⟨?_, ?_, ?_⟩
    · rw [List.all_cons, i1]; rfl
    · rw [List.filterMap_cons, i2]
    · rw [List.any_cons, i3]; rfl
theorem getD_rep {K : PySem.W.Frag} {H : Hp} {ds : List D} {vs : List V} (h : Reps K ι H ds vs) {i : Nat} (hi : i < ds.length) : Rep K ι H (ds.getD i .non) (vs.getD i .non) := by
  have e : ds[i]? = some ds[i] := List.getElem?_eq_getElem hi
  obtain ⟨v, e1, e2⟩ := h.get e
  rw [List.getD_eq_getElem?_getD, List.getD_eq_getElem?_getD, e, e1]
  exact e2
theorem perm_reps {K : PySem.W.Frag} {H : Hp} {ds : List D} {vs : List V} (h : Reps K ι H ds vs) : ∀ {perm : List Nat}, (∀ i ∈ perm, i < ds.length) → Reps K ι H (perm.map fun i => ds.getD i .non) (perm.map fun i => vs.getD i .non)
  | [], _ => .nil
  | i :: perm, hi => .cons (getD_rep h (hi i List.mem_cons_self)) (perm_reps h fun j m => hi j (List.mem_cons_of_mem _ m))
/-- the values of keywords, all data -/
def Ekw (X : Cx) (ι : Addr → Nat → Prop) (Γ : List Slot) (kws : List Keyword) (ds : List D) : Prop :=
  ∃ t, PK X kws t ∧ ∀ σ H Q, EnvR X.K ι H σ Γ → (∀ vs H', Same H H' → Reps X.K ι H' ds vs → Q vs H') → t σ H Q
theorem ekw_nil : Ekw X ι Γ [] [] := ⟨_, pk_nil, fun σ H Q g q => q [] H (Same.refl _) .nil⟩
theorem ekw_cons {nm : Option Str} {e : Expr} {kp : Pos} {kws : List Keyword} {d : D} {ds : List D} (h : Ep X ι Γ e (.im d)) (h' : Ekw X ι Γ kws ds) : Ekw X ι Γ (⟨nm, e, kp⟩ :: kws) (d :: ds) := by
  obtain ⟨t, pt, h'⟩ := h'
  refine ⟨_, pk_cons (pe_we X e) pt, fun σ H Q g q => ?_⟩
  refine (h σ H g).mono fun v H1 ⟨s1, r1⟩ => ?_
  exact h' σ H1 _ (g.same s1) fun vs H2 s2 r2 => q _ H2 (s1.trans s2) (.cons (Rep.mono s2.kp r1) r2)
theorem ep_callKw {k n : Nat} {x : Str} {p pos : Pos} {F : FR} {r : R} {ds : List D} {fs : List Slot} {f : Addr} {fd : FuncData} {ps ks : List Str} {perm : List Nat} {kws : List Keyword} (S : Sx X sc N)
    (Fo : FnOk X.prog X.w X.K X.mg X.base (L2.CX X.prog X.w) k f fd ps (spD X.K ι n F)) (hr : Room k X.A) (hm : X.mg x = some (.ref f)) (hk : PySem.W.keepIn X.K (.ref f) = true) (hb : KBinds X.K fd ps ks (kg perm .none) (kg perm .non)) (hg : glB sc x = true) (hkw : Ekw X ι Γ kws ds) (hks : kws.map (·.arg) = ks.map some)
    (hl : ds.length = perm.length) (hn : perm.length = n) (hp : ∀ i ∈ perm, i < perm.length) (hF : F ((perm.map fun i => ds.getD i .non).map Slot.im) (.ret r fs)) : Ep X ι Γ (.Call (.Name x p) [] kws pos) r := by
  intro σ H g
  obtain ⟨t, pt, h⟩ := hkw
  obtain ⟨i1, i2, i3⟩ := kw_all (env := X.env) (pos := pos) hks
  refine WE.of (pe_kw0 Fo hr (S.gl hg) hm hk hb passL pt i1 i2 (gl_of hg).2.1 (by rw [i3]; rfl)) ?_
  refine h σ H _ g fun vs H1 s1 r1 => ?_
  have e : kg perm V.non [] vs = perm.map fun i => vs.getD i .non := if_pos ⟨rfl, by rw [r1.length, hl]⟩
  show spD X.K ι n F (kg perm .non [] vs) H1 _ _
  rw [e]
  have rp := perm_reps r1 (perm := perm) (by rw [hl]; exact hp)
  refine ⟨by rw [List.length_map]; exact hn, _, .ret r fs, hF, args_im rp, fun v H' hp hv => ⟨s1.trans fun b o e => hp.keep b o e (.inr fun i h => (no_mu h).elim), hv.older s1⟩⟩
end
end DL
/-! DL, part l: a pure term tells what an expression comes to. -/
namespace DL
open PySem PySem.Spec L2

/-! ### forms of expressions -/
def notStar : Expr → Bool | .Starred _ _ => false | _ => true
def notSet : Expr → Bool | .Set _ _ _ => false | _ => true
def notSlice : Expr → Bool | .Slice _ _ _ _ => false | _ => true
def notNull : Expr → Bool | .Call (.Name _ _) [] [] _ => false | _ => true
/-- its truth is that of its value -/
def plainT : Expr → Bool | .Call _ _ _ _ => true | .Name _ _ => true | .Attribute _ _ _ => true | .Subscript _ _ _ => true | _ => false
def recvB : Expr → Bool | .Call (.Name _ _) [] [] _ => false | .Call _ _ _ _ => true | .Name _ _ => true | .Attribute _ _ _ => true | .Subscript _ _ _ => true | _ => false
def isBO : Expr → Bool | .BoolOp _ _ _ => true | _ => false
def isCN : Expr → Bool | .Compare _ _ _ _ => true | .UnaryOp .Not _ _ => true | _ => false
def testB (e : Expr) : Bool := plainT e || isBO e || isCN e
theorem star_cons {e : Expr} {es : List Expr} {env : Env} (h : notStar e = true) : starEach (e :: es) env = (false, eval e env) :: starEach es env := by
  cases e <;> first | rfl | (cases h; done)
theorem stars_any {env : Env} {pos : Pos} : ∀ {es : List Expr}, es.all notStar = true → (backTo pos (starEach es env)).any (·.1) = false
  | [], _ => rfl
  | e :: es, h => by
    rw [List.all_cons, Bool.and_eq_true] at h
    rw [star_cons h.1]
    show (false || (backTo pos (starEach es env)).any (·.1)) = false
    rw [stars_any h.2]
    rfl
theorem plain_ix {e : Expr} (h : notSlice e = true) : PlainIx e := by
  cases e <;> first | (cases h; done) | exact fun _ _ => rfl
theorem attr_base {e : Expr} {f : Str} {env : Env} {w : Sem Value} (h : notNull e = true) : attributeBase e f env w = w := by
  unfold attributeBase
  split
  · cases h
  · rfl
theorem plain_test {e : Expr} {env : Env} (h : plainT e = true) : ∀ whole, isTrue e env whole = (do let v ← whole; standAt e.pos; holding [v] (truthy v)) := by
  intro w
  cases e <;> first | (cases h; done) | rfl
theorem folded_set {e : Expr} {env : Env} (h : notSet e = true) : ∀ x, foldedSetIterable e env x = pure x := by
  intro w
  cases e <;> first | (cases h; done) | rfl
/-! ### the names -/
/-- a table by numbers, not all of them in use -/
def lk {α : Type} : List (Nat × α) → Nat → Option α
  | [], _ => none
  | (i, a) :: l, j => if i = j then some a else lk l j
structure GI where
  dn : List (Nat × (Str × Nat))
  cn : List (Nat × Str)
  cl : List (Nat × (Str × Nat))
  mn : List (Nat × (Str × Nat))
  fl : List (Nat × Str)
  df : List (Nat × Nat)
  ic : List Nat
  kn : List (Nat × Str)
  fn : List (Nat × Nat)
  kw : List (Nat × (Str × List Str))
def Bi.nm : Bi → Str
  | .len => "len" | .abs => "abs" | .max2 => "max" | .min2 => "min" | .sum => "sum" | .all => "all" | .any => "any" | .divmod => "divmod"
  | .int => "int" | .str => "str" | .tuple => "tuple" | .list => "list" | .min => "min" | .srtset => "sorted"
def Bi.plain : Bi → Bool
  | .srtset => false
  | _ => true
def bnames : List Str := ["len", "abs", "max", "min", "sum", "all", "any", "divmod", "int", "str", "tuple", "list", "range", "enumerate", "isinstance", "bool", "sorted", "set", "dict"]
structure GOk (X : Cx) (ι : Addr → Nat → Prop) (G : GI) (T : Tb) : Prop where
  call : ∀ j x n, lk G.dn j = some (x, n) → ∃ k, Room k X.A ∧ DefAt X.prog X.w X.K X.mg X.base ι k x n (fun ss o => T.call j ss = some o)
  meth : ∀ m x n, lk G.mn m = some (x, n) → T.mnm m = x ∧ ∃ k, Room k X.A ∧ MethAt X.prog X.w X.K X.mg X.base ι k (T.cls (T.meth m).1) x n (fun ss o => T.call (T.meth m).2 ss = some o)
  make : ∀ c x n, lk G.cl c = some (x, n) → ∃ k, Room (k + 1) X.A ∧ MakeAt X.prog X.w X.K X.mg X.base ι k x (T.cls c) n (T.init c).2 (fun ss o => T.call (T.init c).1 ss = some o) ∧ ι (T.cls c) (T.full c) ∧ ¬ ι (T.cls c) 0 ∧ (lk G.df c).getD 0 = (T.init c).2.length
  fl : ∀ c f, (c, f) ∈ G.fl → Cls X.K (T.cls c) ∧ NoAttr X.K (T.cls c) f
  con : ∀ j x, lk G.cn j = some x → ∃ v u, X.mg x = some u ∧ RelV v u ∧ ∀ H, Rep X.K ι H (T.con j) v
  bn : ∀ x ∈ bnames, X.mg x = none
  un : X.A.units + 100 < cLine
  ic : ∀ c ∈ G.ic, IsC X.K (T.cls c)
  iu : ∀ c f, (c, f) ∈ G.fl → ∀ n, ι (T.cls c) n → n = T.full c
  kd : ∀ (j : Nat) (x : Str), lk G.kn j = some x → X.mg x = some (.ref (T.kd j).1) ∧ KdOk X.K X.w ι (T.kd j).1 (T.kd j).2
  fn : ∀ j n, (j, n) ∈ G.fn → ∃ k fd ps, Room k X.A ∧ FnOk X.prog X.w X.K X.mg X.base (L2.CX X.prog X.w) k (T.adr j) fd ps (spD X.K ι n (fun ss o => T.call j ss = some o)) ∧ PySem.W.keepIn X.K (.ref (T.adr j)) = true ∧ Binds X.K fd ps []
  fns : T.fns = G.fn.map (·.1)
  kw : ∀ (q : Nat) (x : Str) (ks : List Str), lk G.kw q = some (x, ks) → (∀ i ∈ (T.kw q).2, i < (T.kw q).2.length) ∧ ∃ k f fd ps, Room k X.A ∧ FnOk X.prog X.w X.K X.mg X.base (L2.CX X.prog X.w) k f fd ps (spD X.K ι (T.kw q).2.length (fun ss o => T.call (T.kw q).1 ss = some o)) ∧
    X.mg x = some (.ref f) ∧ PySem.W.keepIn X.K (.ref f) = true ∧ KBinds X.K fd ps ks (kg (T.kw q).2 .none) (kg (T.kw q).2 .non)
theorem GOk.blk {X : Cx} {ι : Addr → Nat → Prop} {G : GI} {T : Tb} (g : GOk X ι G T) {scope : Scope} {s0 : Shared} {H0 : Hp} {C : Addr} {cl : List (Str × Addr)} {fp : List Addr} : GOk (BX X scope s0 H0 C cl fp) ι G T :=
  ⟨g.call, g.meth, g.make, g.fl, g.con, g.bn, g.un, g.ic, g.iu, g.kd, g.fn, g.fns, g.kw⟩

/-! ### a term stands for an expression -/
def chkL (f : PE → Expr → Bool) : List PE → List Expr → Bool
  | [], [] => true
  | a :: as, b :: bs => notStar b && f a b && chkL f as bs
  | _, _ => false
def chkO (f : PE → Expr → Bool) : Option PE → Option Expr → Bool
  | none, none => true
  | some a, some b => f a b
  | _, _ => false
def chkI (f : PE → Expr → Bool) (sc : Scope) (vs : List Nat) : ItK → List PE → Expr → Bool
  | .keys, [a], e => (match a with | .kd _ => true | _ => false) && notSet e && f a e
  | .seq, [a], e => notSet e && f a e
  | .range1, [a], .Call (.Name x _) [e] [] _ => decide (x = "range") && glB sc "range" && notStar e && f a e
  | .range2, [a, b], .Call (.Name x _) [e, e'] [] _ => decide (x = "range") && glB sc "range" && notStar e && notStar e' && f a e && f b e'
  | .enum, [a], .Call (.Name x _) [e] [] _ => decide (vs.length = 2) && decide (x = "enumerate") && glB sc "enumerate" && notStar e && f a e
  | _, _, _ => false
def chkT (N : List Str) (scope sc : Scope) : List Nat → Expr → List (Str × Nat) → Bool
  | [i], .Name x _, [(y, j)] => decide (N[i]? = some x) && decide ((relS scope sc).names.lookup x = some .local) && decide (x = y) && decide (i = j)
  | [i, j], .Tuple [.Name x _, .Name y _] _ _, [(x', i'), (y', j')] => decide (N[i]? = some x) && decide ((relS scope sc).names.lookup x = some .local) && decide (N[j]? = some y) && decide ((relS scope sc).names.lookup y = some .local) && decide (x = x') && decide (i = i') && decide (y = y') && decide (j = j')
  | _, _, _ => false
def ownOf (N : List Str) (vs : List Nat) : List (Str × Nat) := vs.map fun i => ((N[i]?).getD "", i)
def tyS : Ty → Str
  | .int => "int" | .bool => "bool" | .str => "str" | .tuple => "tuple" | .list => "list" | .dict => "dict" | .cls _ => ""
def isTyB (G : GI) : Ty → Str → Bool
  | .cls j, x => decide ((lk G.cl j).map (·.1) = some x) && G.ic.contains j
  | t, x => decide (x = tyS t)
def chkP (G : GI) (N : List Str) : Nat → Scope → PE → Expr → Bool
  | 0, _, _, _ => false
  | n + 1, sc, e, ex =>
    let f := chkP G N n sc
    match e, ex with
    | .var i, .Name x _ => decide (N[i]? = some x) && visB sc x
    | .int i, .Constant (.int j) _ _ => decide (i = j)
    | .str i, .Constant (.str j) _ _ => decide (i = j)
    | .bl i, .Constant (.bool j) _ _ => decide (i = j)
    | .non, .Constant .none _ _ => true
    | .con j, .Name x _ => decide (lk G.cn j = some x) && glB sc x
    | .bin op a b, .BinOp a' op' b' _ => decide (op = op') && f a a' && f b b'
    | .cmp op a b, .Compare a' [op'] [b'] _ => decide (op = op') && f a a' && f b b' && !behindInMarks op b'
    | .chain o1 o2 a b c, .Compare a' [p1, p2] [b', c'] _ => decide (o1 = p1) && decide (o2 = p2) && f a a' && f b b' && f c c' && !lastMarks [p1, p2] [b', c']
    | .and a b, .BoolOp .And (x :: y :: []) _ => f a x && testB x && f b y && testB y
    | .and a b, .BoolOp .And (x :: y :: z :: es) pos => f a x && testB x && f b (.BoolOp .And (y :: z :: es) pos)
    | .or a b, .BoolOp .Or (x :: y :: []) _ => f a x && testB x && f b y && testB y
    | .or a b, .BoolOp .Or (x :: y :: z :: es) pos => f a x && testB x && f b (.BoolOp .Or (y :: z :: es) pos)
    | .not a, .UnaryOp .Not a' _ => f a a' && testB a'
    | .neg a, .UnaryOp .USub a' _ => f a a'
    | .ite c a b, .IfExp c' a' b' _ => f c c' && testB c' && f a a' && f b b'
    | .tup es, .Tuple es' _ _ => chkL f es es'
    | .lst es, .List es' _ => chkL f es es'
    | .ix a b, .Subscript a' b' _ => f a a' && f b b' && notSlice b'
    | .sl a lo hi, .Subscript a' (.Slice lo' hi' none _) _ => f a a' && chkO f lo lo' && chkO f hi hi'
    | .rev a, .Subscript a' (.Slice none none (some (.UnaryOp .USub (.Constant (.int 1) _ _) _)) _) _ => f a a'
    | .fld c a g, .Attribute a' g' _ => f a a' && decide (g = g') && G.fl.contains (c, g) && notNull a'
    | .call j es, .Call (.Name x _) (e :: es') [] _ => decide ((lk G.dn j).map (·.1) = some x) && decide ((lk G.dn j).map (·.2) = some es.length) && glB sc x && chkL f es (e :: es')
    | .meth j o [], .Call (.Attribute o' x ap) [] [] cp => f o o' && decide ((lk G.mn j).map (·.1) = some x) && decide ((lk G.mn j).map (·.2) = some 1) && (recvB o' && ap.endLine == cp.line)
    | .meth j o (a :: as), .Call (.Attribute o' x ap) (e :: es') [] cp => f o o' && decide ((lk G.mn j).map (·.1) = some x) && decide ((lk G.mn j).map (·.2) = some (as.length + 2)) && (recvB o' && (decide ((e :: es').length < 30) && ap.endLine == cp.line)) && chkL f (a :: as) (e :: es')
    | .make c es, .Call (.Name x _) (e :: es') [] _ => decide ((lk G.cl c).map (·.1) = some x) && decide ((lk G.cl c).map (·.2) = some (es.length + (lk G.df c).getD 0 + 1)) && glB sc x && chkL f es (e :: es')
    | .bi b es, .Call (.Name x _) (e :: es') [] _ => b.plain && decide (b.nm = x) && glB sc x && chkL f es (e :: es')
    | .isi a t, .Call (.Name y _) [a', .Name x _] [] _ => decide (y = "isinstance") && glB sc "isinstance" && f a a' && (glB sc x && isTyB G t x) && notStar a'
    | .kd j, .Name x _ => decide (lk G.kn j = some x) && glB sc x
    | .kin neg a j, .Compare a' [op] [.Name x _] _ => decide (op = (if neg then .NotIn else .In)) && f a a' && decide (lk G.kn j = some x) && glB sc x
    | .kget j a, .Subscript (.Name x _) a' _ => f a a' && decide (lk G.kn j = some x) && glB sc x && notSlice a'
    | .callV i es, .Call (.Name x _) (e :: es') [] _ => decide (N[i]? = some x) && visB sc x && G.fn.all (fun p => p.2 == es.length) && chkL f es (e :: es')
    | .callK q es, .Call (.Name x _) [] kws _ => decide (lk G.kw q = some (x, kws.filterMap (·.arg))) && decide (kws.map (·.arg) = (kws.filterMap (·.arg)).map some) && glB sc x && decide (es.length = kws.length) && (es.zip kws).all fun p => f p.1 p.2.value
    | .call0 j, .Call (.Name x _) [] [] _ => decide (lk G.dn j = some (x, 0)) && glB sc x
    | .oeq m a b, .Compare a' [.Eq] [b'] _ => decide (lk G.mn m = some (("__eq__" : Str), 2)) && f a a' && f b b' && !behindInMarks .Eq b'
    | .lc vs k it c e, .ListComp elt [⟨tg, it', ifs, a⟩] scope _ => decide (a = 0) && notSet it' && chkI f sc vs k it it' && chkT N scope sc vs tg (ownOf N vs) && blkC N sc scope (ownOf N vs)
        && (match c, ifs with | none, [] => true | some c, [c'] => chkP G N n (relS scope sc) c c' && testB c' | _, _ => false) && chkP G N n (relS scope sc) e elt
    | _, _ => false
end DL
/-! DL, part m: .. proved. -/
namespace DL
open PySem PySem.Spec L2
section
variable {X : Cx} {ι : Addr → Nat → Prop} {Γ Γ1 Γ2 Γ' : List Slot} {sc : Scope} {N : List Str} {G : GI} {T : Tb} {n : Nat}
/-- what a term's chk and value give -/
structure POk (X : Cx) (ι : Addr → Nat → Prop) (Γ : List Slot) (ex : Expr) (r : R) : Prop where
  ep : Ep X ι Γ ex r
  et : ∀ b, r = .im (.bl b) → testB ex = true → Et X ι Γ ex b
  ew : ∀ b, r = .im (.bl b) → isBO ex = true → Ew X ι Γ ex b
def IH (G : GI) (T : Tb) (N : List Str) (ι : Addr → Nat → Prop) (n : Nat) : Prop :=
  ∀ (X : Cx) (sc : Scope) (e : PE) (ex : Expr) (Γ : List Slot) (r : R), Sx X sc N → GOk X ι G T → chkP G N n sc e ex = true → evP T n e Γ = some r → POk X ι Γ ex r
theorem pok_plain {ex : Expr} {r : R} (h : Ep X ι Γ ex r) (p : plainT ex = true) : POk X ι Γ ex r := by
  refine ⟨h, fun b e t => ?_, fun b e t => ?_⟩
  · subst e; exact et_val h (plain_test p)
  · cases ex <;> first | (cases p; done) | (cases t; done)
theorem pok_no {ex : Expr} {r : R} (h : Ep X ι Γ ex r) (p : testB ex = false) : POk X ι Γ ex r := by
  refine ⟨h, fun b e t => ?_, fun b e t => ?_⟩
  · rw [p] at t; cases t
  · unfold testB at p
    rw [t] at p
    simp at p
theorem and_split {a b : Bool} (h : (a && b) = true) : a = true ∧ b = true := by
  rw [Bool.and_eq_true] at h; exact h
theorem mapO_cons {α β : Type} {f : α → Option β} {a : α} {as : List α} {bs : List β} (h : mapO f (a :: as) = some bs) : ∃ b bs', f a = some b ∧ mapO f as = some bs' ∧ bs = b :: bs' := by
  unfold mapO at h
  split at h
  · split at h
    · cases h; exact ⟨_, _, ‹_›, ‹_›, rfl⟩
    · cases h
  · cases h
theorem eds_ok (ih : IH G T N ι n) (S : Sx X sc N) (g : GOk X ι G T) : ∀ {es : List PE} {xs : List Expr} {ds : List D}, chkL (chkP G N n sc) es xs = true → mapO (fun e => (evP T n e Γ).bind R.toD) es = some ds → Eds X ι Γ xs ds ∧ xs.all notStar = true ∧ ds.length = es.length
  | [], [], ds, _, h => by cases h; exact ⟨eds_nil, rfl, rfl⟩
  | [], _ :: _, _, c, _ => by cases c
  | _ :: _, [], _, c, _ => by cases c
  | e :: es, x :: xs, ds, c, h => by
    obtain ⟨d, ds', h1, h2, rfl⟩ := mapO_cons h
    obtain ⟨c, c3⟩ := and_split c
    obtain ⟨c1, c2⟩ := and_split c
    obtain ⟨r, e1, e2⟩ := obind_some h1
    obtain ⟨h3, h4, h5⟩ := eds_ok ih S g c3 h2
    refine ⟨eds_cons (ep_d (ih X sc e x Γ r S g c2 e1).ep (toD_of e2)) h3 (star_cons c1), ?_, ?_⟩
    · rw [List.all_cons, c1, h4]; rfl
    · rw [List.length_cons, List.length_cons, h5]
theorem eps_ok (ih : IH G T N ι n) (S : Sx X sc N) (g : GOk X ι G T) : ∀ {es : List PE} {xs : List Expr} {ds : List R}, chkL (chkP G N n sc) es xs = true → mapO (fun e => evP T n e Γ) es = some ds → Eps X ι Γ xs ds ∧ xs.all notStar = true
  | [], [], ds, _, h => by cases h; exact ⟨eps_nil, rfl⟩
  | [], _ :: _, _, c, _ => by cases c
  | _ :: _, [], _, c, _ => by cases c
  | e :: es, x :: xs, ds, c, h => by
    obtain ⟨d, ds', h1, h2, rfl⟩ := mapO_cons h
    obtain ⟨c, c3⟩ := and_split c
    obtain ⟨c1, c2⟩ := and_split c
    obtain ⟨h3, h4⟩ := eps_ok ih S g c3 h2
    refine ⟨eps_cons (ih X sc e x Γ d S g c2 h1).ep h3 (star_cons c1), ?_⟩
    rw [List.all_cons, c1, h4]; rfl
theorem epo_ok (ih : IH G T N ι n) (S : Sx X sc N) (g : GOk X ι G T) {o : Option PE} {o' : Option Expr} {l : Option Int} (c : chkO (chkP G N n sc) o o' = true)
    (h : optI (fun e => evP T n e Γ) o = some l) : Epo X ι Γ o' l := by
  unfold chkO at c
  split at c
  · cases h; exact .none
  · obtain ⟨i, h1, h2⟩ := omap_some h
    subst h2
    obtain ⟨r, e1, e2⟩ := obind_some h1
    have := int_of e2
    subst this
    exact .some (ih X sc _ _ Γ _ S g c e1).ep
  · cases c
theorem dec {p : Prop} [Decidable p] (h : decide p = true) : p := of_decide_eq_true h
theorem notb {b : Bool} (h : (!b) = true) : b = false := by cases b <;> first | rfl | cases h
/-- what is walked -/
theorem ei_ok (ih : IH G T N ι n) (S : Sx X sc N) (g : GOk X ι G T) {vs : List Nat} {k : ItK} {es : List PE} {it : Expr} {rs : List R} {ds : List D} {tg : Expr} (c : chkI (chkP G N n sc) sc vs k es it = true) (h : mapO (fun e => evP T n e Γ) es = some rs) (h' : itK T k es rs = some ds)
    (ht : vs.length = 2 → ∃ ts kk pt, tg = .Tuple ts kk pt) : Ei X ι Γ tg it ds := by
  unfold chkI at c
  split at c
  · rename_i ee aa
    obtain ⟨c, c3⟩ := and_split c
    obtain ⟨c1, c2⟩ := and_split c
    cases aa with
    | kd j =>
      have h2 : some ((T.kd j).2.map fun p => D.str p.1) = some ds := h'
      cases h2
      cases n with
      | zero => cases c3
      | succ n =>
        unfold chkP at c3
        cases it with
        | Name y p =>
          obtain ⟨c4, c5⟩ := and_split (show (decide (lk G.kn j = some y) && glB sc y) = true from c3)
          obtain ⟨k1, k2⟩ := g.kd _ _ (dec c4)
          exact ei_kd k2 (ep_glob S c5 k1 (v := .ref (T.kd j).1) rfl fun H => .ref _)
        | _ => cases c3
    | _ => cases c1
  · have h' : itR .seq rs = some ds := h'
    obtain ⟨c1, c2⟩ := and_split c
    obtain ⟨r, rs', h1, h2, rfl⟩ := mapO_cons h
    cases h2
    have := (ih X sc _ _ Γ _ S g c2 h1).ep
    unfold itR at h'
    split at h' <;> rename_i q1 q2 <;> first | (cases q1; done) | (cases h'; done) | skip
    all_goals cases q2
    · cases h'; exact ei_list this
    · cases h'; exact ei_list (ep_d this .lst)
    · cases h'; exact ei_tup this
    · cases h'; exact ei_str this
  · have h' : itR .range1 rs = some ds := h'
    obtain ⟨c, c4⟩ := and_split c
    obtain ⟨c, c3⟩ := and_split c
    obtain ⟨c1, c2⟩ := and_split c
    have := dec c1
    subst this
    obtain ⟨r, rs', h1, h2, rfl⟩ := mapO_cons h
    cases h2
    have z := (ih X sc _ _ Γ _ S g c4 h1).ep
    unfold itR at h'
    split at h' <;> rename_i q1 q2 <;> first | (cases q1; done) | (cases h'; done) | skip
    cases q2
    obtain ⟨⟨b1, b2⟩, e⟩ := gd_some h'
    subst e
    have w := fun p pos => ei_range1 (tg := tg) (p := p) (pos := pos) S (g.bn _ (by decide +kernel)) c2 z b1 b2 (star_cons c3)
    simp only [Int.zero_add] at w
    exact w _ _
  · have h' : itR .range2 rs = some ds := h'
    obtain ⟨c, c6⟩ := and_split c
    obtain ⟨c, c5⟩ := and_split c
    obtain ⟨c, c4⟩ := and_split c
    obtain ⟨c, c3⟩ := and_split c
    obtain ⟨c1, c2⟩ := and_split c
    have := dec c1
    subst this
    obtain ⟨r, rs', h1, h2, rfl⟩ := mapO_cons h
    obtain ⟨r2, rs', h3, h4, rfl⟩ := mapO_cons h2
    cases h4
    have z1 := (ih X sc _ _ Γ _ S g c5 h1).ep
    have z2 := (ih X sc _ _ Γ _ S g c6 h3).ep
    unfold itR at h'
    split at h' <;> rename_i q1 q2 <;> first | (cases q1; done) | (cases h'; done) | skip
    cases q2
    obtain ⟨b, e⟩ := gd_some h'
    subst e
    exact ei_range2 S (g.bn _ (by decide +kernel)) c2 z1 z2 b (by rw [star_cons c3, star_cons c4]; rfl) (star_cons c4)
  · have h' : itR .enum rs = some ds := h'
    obtain ⟨c, c5⟩ := and_split c
    obtain ⟨c, c4⟩ := and_split c
    obtain ⟨c, c3⟩ := and_split c
    obtain ⟨c1, c2⟩ := and_split c
    have := dec c2
    subst this
    obtain ⟨ts, kk, pt, rfl⟩ := ht (dec c1)
    obtain ⟨r, rs', h1, h2, rfl⟩ := mapO_cons h
    cases h2
    have z := (ih X sc _ _ Γ _ S g c5 h1).ep
    unfold itR at h'
    split at h' <;> rename_i q1 q2 <;> first | (cases q1; done) | (cases h'; done) | skip
    all_goals cases q2
    all_goals cases h'
    · exact ei_enumT S (g.bn _ (by decide +kernel)) c3 z (star_cons c4)
    · exact ei_enum S (g.bn _ (by decide +kernel)) c3 z (star_cons c4)
    · exact ei_enum S (g.bn _ (by decide +kernel)) c3 (ep_d z .lst) (star_cons c4)
  · cases c
/-- a list comprehension -/
theorem lcRun_spec {f : D → Option (Option D)} : ∀ {ds ys : List D}, lcRun f ds = some ys → (∀ d ∈ ds, ∃ o, f d = some o) ∧ ys = (ds.filter fun d => ((f d).getD none).isSome).map fun d => (((f d).getD none).getD .non)
  | [], ys, h => by cases h; exact ⟨fun d m => absurd m List.not_mem_nil, rfl⟩
  | d :: ds, ys, h => by
    unfold lcRun at h
    split at h
    · cases h
    · rename_i e
      obtain ⟨h1, h2⟩ := lcRun_spec h
      refine ⟨fun x m => ?_, ?_⟩
      · rcases List.mem_cons.mp m with q | q
        · subst q; exact ⟨_, e⟩
        · exact h1 x q
      · rw [List.filter_cons, e]; exact h2
    · rename_i y e
      split at h
      · rename_i ys' e'
        cases h
        obtain ⟨h1, h2⟩ := lcRun_spec e'
        refine ⟨fun x m => ?_, ?_⟩
        · rcases List.mem_cons.mp m with q | q
          · subst q; exact ⟨_, e⟩
          · exact h1 x q
        · rw [List.filter_cons, e]
          show _ = List.map _ (d :: _)
          rw [List.map_cons, e, h2]
          rfl
      · cases h
theorem ite_some {α : Type} {p : Prop} [Decidable p] {o : Option α} {x : α} (h : (if p then o else none) = some x) : p ∧ o = some x := by
  split at h
  · exact ⟨‹_›, h⟩
  · cases h
theorem ebt_ok (S : Sx X sc N) {scope : Scope} {vs : List Nat} {tg : Expr} {d : D} (c : chkT N scope sc vs tg (ownOf N vs) = true) (h : bindL vs d Γ = some Γ') : Ebt X ι scope ((ownOf N vs).map (·.2)) tg d Γ Γ' := by
  have ov : (ownOf N vs).map (·.2) = vs := by unfold ownOf; rw [List.map_map]; exact List.map_id _
  rw [ov]
  unfold chkT at c
  split at c
  · obtain ⟨c, c4⟩ := and_split c
    obtain ⟨c, c3⟩ := and_split c
    obtain ⟨c1, c2⟩ := and_split c
    obtain ⟨h1, h2⟩ := ite_some (show (if _ then some _ else none) = some Γ' from h)
    cases h2
    exact ebt_name S _ (dec c1) (dec c2) h1
  · obtain ⟨c, c8⟩ := and_split c
    obtain ⟨c, c7⟩ := and_split c
    obtain ⟨c, c6⟩ := and_split c
    obtain ⟨c, c5⟩ := and_split c
    obtain ⟨c, c4⟩ := and_split c
    obtain ⟨c, c3⟩ := and_split c
    obtain ⟨c1, c2⟩ := and_split c
    cases d <;> first | (cases h; done) | skip
    rename_i l
    match l, h with
    | [d1, d2], h =>
      obtain ⟨h1, h2⟩ := ite_some (show (if _ then some _ else none) = some Γ' from h)
      cases h2
      exact ebt_two S _ _ (dec c1) (dec c3) (dec c2) (dec c4) h1.2.2
    | [], h => cases h
    | [_], h => cases h
    | _ :: _ :: _ :: _, h => cases h
  · cases c
theorem chkT_two {scope : Scope} {vs : List Nat} {tg : Expr} {own : List (Str × Nat)} (c : chkT N scope sc vs tg own = true) (h : vs.length = 2) : ∃ ts kk pt, tg = .Tuple ts kk pt := by
  unfold chkT at c
  split at c
  · cases h
  · exact ⟨_, _, _, rfl⟩
  · cases c
noncomputable def lcG (T : Tb) (n : Nat) (c : Option PE) (e : PE) (Γ' : List Slot) : Option (Option D) := match c with
  | none => ((evP T n e Γ').bind R.toD).map some
  | some c => ((evP T n c Γ').bind R.bl?).bind fun p => if p then ((evP T n e Γ').bind R.toD).map some else some none
noncomputable def lcF (T : Tb) (n : Nat) (vs : List Nat) (c : Option PE) (e : PE) (Γ : List Slot) (d : D) : Option (Option D) := (bindL vs d Γ).bind fun Γ' => lcG T n c e Γ'
theorem lcF_eq {vs : List Nat} {c : Option PE} {e : PE} {d : D} (h : bindL vs d Γ = some Γ') : lcF T n vs c e Γ d = lcG T n c e Γ' := by
  unfold lcF; rw [h]; rfl
theorem lcOk_of (ih : IH G T N ι n) (S : Sx X sc N) (g : GOk X ι G T) {scope : Scope} {vs : List Nat} {k : ItK} {its : List PE} {c : Option PE} {e : PE} {tg it elt : Expr} {ifs : List Expr} {ys : List D} {rs : List R} {ds : List D}
    (c1 : chkI (chkP G N n sc) sc vs k its it = true) (c2 : chkT N scope sc vs tg (ownOf N vs) = true) (c3 : (match c, ifs with | none, [] => true | some c, [c'] => chkP G N n (relS scope sc) c c' && testB c' | _, _ => false) = true) (c4 : chkP G N n (relS scope sc) e elt = true)
    (h1 : mapO (fun e => evP T n e Γ) its = some rs) (h2 : itK T k its rs = some ds) (h3 : ds.length ≤ sizeLine) (h4 : lcRun (lcF T n vs c e Γ) ds = some ys) : LcOk X ι Γ tg it elt ifs scope (ownOf N vs) ys := by
  obtain ⟨h5, h6⟩ := lcRun_spec h4
  subst h6
  have bnd : ∀ d ∈ ds, ∃ Γ', bindL vs d Γ = some Γ' := fun d m => by
    obtain ⟨o, e⟩ := h5 d m
    obtain ⟨Γ', e1, _⟩ := obind_some e
    exact ⟨Γ', e1⟩
  refine lc_ok (xs := ds) (c := id) (ei_ok ih S g c1 h1 h2 (chkT_two c2)) (by rw [List.map_id]) (fun d => (bindL vs d Γ).getD []) (fun d m => ?_) (fun d m σ H gr => ?_) (fun d m hf s0 H0 C cl fp => ?_) h3
  · obtain ⟨Γ', e1⟩ := bnd d m
    show Ebt X ι scope _ tg d Γ ((bindL vs d Γ).getD [])
    rw [e1]
    exact ebt_ok S c2 e1
  · obtain ⟨Γ', e1⟩ := bnd d m
    obtain ⟨o, e2⟩ := h5 d m
    rw [e1] at gr
    rw [lcF_eq e1] at e2 ⊢
    unfold lcG at e2 ⊢
    split at c3
    · obtain ⟨y, e3, e4⟩ := omap_some e2
      rw [e3]
      exact wtb_nil
    · obtain ⟨c5, c6⟩ := and_split c3
      obtain ⟨p, e3, e4⟩ := obind_some e2
      obtain ⟨r, e5, e6⟩ := obind_some e3
      have := bl_of e6
      subst this
      have w := wtb_one (scope := scope) (H := H) (fun s0 H0 C cl fp => (ih _ _ _ _ _ _ (S.blk (scope := scope) (s0 := s0) (H0 := H0) (C := C) (cl := cl) (fp := fp)) g.blk c5 e5).et p rfl c6) gr
      dsimp only
      rw [e3]
      cases p with
      | false => exact w
      | true =>
        rw [if_pos rfl] at e4
        obtain ⟨y, e7, e8⟩ := omap_some e4
        simp only [Option.bind_some, if_true]
        rw [e7]
        exact w
    · cases c3
  · obtain ⟨Γ', e1⟩ := bnd d m
    obtain ⟨o, e2⟩ := h5 d m
    show Ep _ ι ((bindL vs d Γ).getD []) elt _
    rw [e1]
    have fin : ∀ {y : D}, (evP T n e Γ').bind R.toD = some y → Ep (BX X scope s0 H0 C cl fp) ι Γ' elt (.im y) := fun {y} q => by
      obtain ⟨r, e5, e6⟩ := obind_some q
      exact ep_d (ih _ _ _ _ _ _ S.blk g.blk c4 e5).ep (toD_of e6)
    rw [e2] at hf
    show Ep _ ι Γ' elt (.im (((lcF T n vs c e Γ d).getD none).getD .non))
    rw [e2]
    cases o with
    | none => cases hf
    | some y =>
      show Ep _ ι Γ' elt (.im y)
      rw [lcF_eq e1] at e2
      unfold lcG at e2
      cases c with
      | none =>
        obtain ⟨y', e3, e4⟩ := omap_some e2
        cases e4
        exact fin e3
      | some c0 =>
        obtain ⟨p, e3, e4⟩ := obind_some e2
        cases p with
        | false => cases e4
        | true =>
          rw [if_pos rfl] at e4
          obtain ⟨y', e5, e6⟩ := omap_some e4
          cases e6
          exact fin e5
end
end DL
/-! DL, part n: every pure term. -/
namespace DL
open PySem PySem.Spec L2
section
variable {X : Cx} {ι : Addr → Nat → Prop} {Γ Γ1 Γ2 Γ' : List Slot} {sc : Scope} {N : List Str} {G : GI} {T : Tb} {n : Nat}
theorem evP_succ (T : Tb) (n : Nat) (e : PE) (Γ : List Slot) : evP T (n + 1) e Γ = (
    let ev := evP T n
    let evs := fun es : List PE => mapO (fun e => ev e Γ) es
    let evd := fun es : List PE => mapO (fun e => (ev e Γ).bind R.toD) es
    match e with
    | .var i => Γ[i]?.bind slotR
    | .int i => some (.im (.int i)) | .str s => some (.im (.str s)) | .bl b => some (.im (.bl b)) | .non => some (.im .non)
    | .con j => some (.im (T.con j))
    | .bin op a b => (ev a Γ).bind fun ra => (ev b Γ).bind fun rb => binR op ra rb
    | .cmp op a b => (ev a Γ).bind fun ra => (ev b Γ).bind fun rb => (cmpR op ra rb).map fun q => .im (.bl q)
    | .chain o1 o2 a b c => (ev a Γ).bind fun ra => (ev b Γ).bind fun rb => (ev c Γ).bind fun rc => (cmpR o1 ra rb).bind fun p => (cmpR o2 rb rc).map fun q => .im (.bl (p && q))
    | .and a b => ((ev a Γ).bind R.bl?).bind fun p => if p then ((ev b Γ).bind R.bl?).map fun q => .im (.bl q) else some (.im (.bl false))
    | .or a b => ((ev a Γ).bind R.bl?).bind fun p => if p then some (.im (.bl true)) else ((ev b Γ).bind R.bl?).map fun q => .im (.bl q)
    | .not a => ((ev a Γ).bind R.bl?).map fun p => .im (.bl (!p))
    | .neg a => ((ev a Γ).bind R.int?).map fun p => .im (.int (-p))
    | .ite c a b => ((ev c Γ).bind R.bl?).bind fun p => if p then ev a Γ else ev b Γ
    | .tup es => (evd es).bind fun ds => gd (ds.length ≤ sizeLine) (.im (.tup ds))
    | .lst es => (evd es).bind fun ds => gd (ds.length ≤ sizeLine) (.ow (.lst ds))
    | .ix a b => (ev a Γ).bind fun ra => (ev b Γ).bind fun rb => ixR ra rb
    | .sl a lo hi => (ev a Γ).bind fun ra =>
        (optI (fun e => ev e Γ) lo).bind fun l => (optI (fun e => ev e Γ) hi).bind fun u => slR ra l u
    | .rev a => (ev a Γ).bind revR
    | .fld c a f => (ev a Γ).bind fun ra => match ra with
        | .im (.ins C fs) => if C = T.cls c then (fs.lookup f).map .im else none
        | .vo (.ins C fs) => if C = T.cls c then (fs.lookup f).map .im else none
        | _ => none
    | .call j es => (evd es).bind fun ds => match T.call j (argS ds) with
        | some (.ret r _) => some r
        | _ => none
    | .meth j o es => (ev o Γ).bind fun ro => match ro with
        | .im (.ins C fl) => (evd es).bind fun ds => if C = T.cls (T.meth j).1 ∧ fl.lookup (T.mnm j) = none then match T.call (T.meth j).2 (argS (.ins C fl :: ds)) with
            | some (.ret r _) => some r
            | _ => none
          else none
        | _ => none
    | .make c es => (evd es).bind fun ds => match T.call (T.init c).1 (.mu (.ins (T.cls c) []) :: argS (ds ++ (T.init c).2)) with
        | some (.ret (.im .non) (.mu (.ins C fl) :: _)) => if C = T.cls c ∧ fl.length = T.full c then some (.im (.ins C fl)) else none
        | _ => none
    | .bi f es => (evs es).bind fun rs => biR f rs
    | .isi a t => ((ev a Γ).bind R.lookD).bind fun d => (isiD T.cls d t).map fun b => .im (.bl b)
    | .oeq m a b => (ev a Γ).bind fun ra => (ev b Γ).bind fun rb => match ra, rb with
        | .im (.ins C fl), .im (.ins C' gl) => if C = T.cls (T.meth m).1 ∧ C' = C then match T.call (T.meth m).2 (argS [.ins C fl, .ins C' gl]) with
            | some (.ret (.im (.bl q)) _) => some (.im (.bl q))
            | _ => none
          else none
        | _, _ => none
    | .call0 j => match T.call j [] with
        | some (.ret r _) => some r
        | _ => none
    | .kd j => some (.im (.ref (T.kd j).1))
    | .kin neg a j => (ev a Γ).bind fun ra => match ra with
        | .im (.str z) => some (.im (.bl (if neg then !((T.kd j).2.lookup z).isSome else ((T.kd j).2.lookup z).isSome)))
        | _ => none
    | .kget j a => (ev a Γ).bind fun ra => match ra with
        | .im (.str z) => ((T.kd j).2.lookup z).map .im
        | _ => none
    | .callV i es => match Γ[i]? with
        | some (.im (.ref a)) => (T.fns.find? fun j => T.adr j = a).bind fun j => (evd es).bind fun ds => match T.call j (argS ds) with
          | some (.ret r _) => some r
          | _ => none
        | _ => none
    | .callK q es => (evd es).bind fun ds => if ds.length = (T.kw q).2.length then match T.call (T.kw q).1 (argS ((T.kw q).2.map fun i => ds.getD i .non)) with
          | some (.ret r _) => some r
          | _ => none
        else none
    | .lc vs k it c e => (evs it).bind fun rs => (itK T k it rs).bind fun ds => if ds.length ≤ sizeLine then (lcRun (lcF T n vs c e Γ) ds).map fun ys => .ow (.lst ys) else none) := by
  cases e <;> rfl
theorem range_get {α : Type} (ys : List α) : ∀ n, n ≤ ys.length → (List.range n).filterMap (fun k => ys[k]?) = ys.take n
  | 0, _ => by rw [List.take_zero]; rfl
  | n + 1, h => by
    rw [List.range_succ, List.filterMap_append, range_get ys n (by omega), List.take_succ]
    have e : ys[n]? = some ys[n] := List.getElem?_eq_getElem (by omega)
    rw [List.filterMap_cons, e]
    rfl
theorem fm_congr {α β : Type} {f g : α → Option β} : ∀ {l : List α}, (∀ a ∈ l, f a = g a) → l.filterMap f = l.filterMap g
  | [], _ => rfl
  | a :: l, h => by
    rw [List.filterMap_cons, List.filterMap_cons, h a List.mem_cons_self, fm_congr fun b m => h b (List.mem_cons_of_mem _ m)]
theorem back_all {α : Type} (xs : List α) : DLX.back xs none none = xs.reverse := by
  have e1 : Builtin.Slice.sliceAdjust none none (-1) (xs.length : Int) = ((xs.length : Int) - 1, -1) := by
    unfold Builtin.Slice.sliceAdjust
    simp
  have e2 : DLX.backLo xs.length none none = (xs.length : Int) - 1 := by unfold DLX.backLo; rw [e1]
  have e3 : DLX.backN xs.length none none = xs.length := by
    unfold DLX.backN
    rw [e1]
    unfold Builtin.Slice.slicePlaces
    simp
    omega
  unfold DLX.back
  rw [e2, e3]
  have e4 : (List.range xs.length).filterMap (fun (k : Nat) => xs[((xs.length : Int) - 1 + (k : Int) * (-1)).toNat]?) = (List.range xs.length).filterMap (fun k => xs.reverse[k]?) := by
    refine fm_congr fun k hk => ?_
    have hk := List.mem_range.mp hk
    rw [List.getElem?_reverse hk]
    congr 1
    omega
  rw [e4, range_get xs.reverse xs.length (by rw [List.length_reverse]; exact Nat.le_refl _), List.take_of_length_le (by rw [List.length_reverse]; exact Nat.le_refl _)]
theorem ep_rev {a : Expr} {ra rr : R} {pos p1 p2 p3 : Pos} {k : Nat} (ha : Ep X ι Γ a ra) (h : revR ra = some rr) : Ep X ι Γ (.Subscript a (.Slice none none (some (.UnaryOp .USub (.Constant (.int 1) k p1) p2)) p3) pos) rr := by
  unfold revR at h
  split at h
  · cases h
    intro σ H g
    refine WE.of (DLX.pe_back (pe_we X a) po_none po_none) ?_
    refine (ha σ H g).mono fun v H1 ⟨s1, r1⟩ => ?_
    obtain ⟨b, vs, e1, h1, h2⟩ := RV.tup r1.rv
    refine ⟨b, vs, e1, h1, ?_⟩
    rw [back_all]
    exact new_tup (Q := fun v H' => Same H H' ∧ ROk X.K ι H H' _ v) h2.reverse fun v H' s2 r2 => ⟨s1.trans s2, r2.older s1⟩
  · split at h
    · rename_i ds e1
      cases h
      intro σ H g
      refine WE.of (pe_revL (pe_we X a)) ?_
      refine (ha σ H g).mono fun v H1 ⟨s1, r1⟩ => ?_
      obtain ⟨b, vs, e1, h1, h2⟩ := r1.rv.lst (lst_of e1)
      refine ⟨b, vs, e1, .inl h1, ?_⟩
      exact new_lst (Q := fun v H' => Same H H' ∧ ROk X.K ι H H' _ v) h2.reverse fun v H' s2 r2 => ⟨s1.trans s2, r2.older s1⟩
    · cases h
theorem pok_and {x y : Expr} {es : List Expr} {pos : Pos} {p q : Bool} (z1 : POk X ι Γ x (.im (.bl p))) (c2 : testB x = true) (h : p = true → Ep X ι Γ (.BoolOp .And (y :: es) pos) (.im (.bl q)) ∧ Ew X ι Γ (.BoolOp .And (y :: es) pos) q) : POk X ι Γ (.BoolOp .And (x :: y :: es) pos) (.im (.bl (p && q))) := by
  have w : Ew X ι Γ (.BoolOp .And (x :: y :: es) pos) (p && q) := ew_and (z1.et _ rfl c2) fun z => (h z).2
  exact ⟨ep_and z1.ep fun z => (h z).1, fun b e _ => by cases e; exact et_w w, fun b e _ => by cases e; exact w⟩
theorem pok_or {x y : Expr} {es : List Expr} {pos : Pos} {p q : Bool} (z1 : POk X ι Γ x (.im (.bl p))) (c2 : testB x = true) (h : p = false → Ep X ι Γ (.BoolOp .Or (y :: es) pos) (.im (.bl q)) ∧ Ew X ι Γ (.BoolOp .Or (y :: es) pos) q) : POk X ι Γ (.BoolOp .Or (x :: y :: es) pos) (.im (.bl (p || q))) := by
  have w : Ew X ι Γ (.BoolOp .Or (x :: y :: es) pos) (p || q) := ew_or (z1.et _ rfl c2) fun z => (h z).2
  exact ⟨ep_or z1.ep fun z => (h z).1, fun b e _ => by cases e; exact et_w w, fun b e _ => by cases e; exact w⟩
theorem ep_bi {b : Bi} {x : Expr} {xs : List Expr} {p pos : Pos} {rs : List R} {rr : R} (S : Sx X sc N) (g : GOk X ι G T) (c1 : b.plain = true) (c3 : glB sc b.nm = true) (z1 : Eps X ι Γ (x :: xs) rs) (ok : CallOk X ι b.val rs rr) (z2 : notStar x = true) (z4 : xs.all notStar = true) :
    Ep X ι Γ (.Call (.Name b.nm p) (x :: xs) [] pos) rr := by
  have nm : X.mg b.nm = none := g.bn _ (by cases b <;> decide +kernel)
  cases b with
  | srtset => cases c1
  | len => exact ep_callB S c3 nm (by decide +kernel) z1 ok (star_cons z2) (stars_any z4)
  | abs => exact ep_callB S c3 nm (by decide +kernel) z1 ok (star_cons z2) (stars_any z4)
  | max2 => exact ep_callB S c3 nm (by decide +kernel) z1 ok (star_cons z2) (stars_any z4)
  | min2 => exact ep_callB S c3 nm (by decide +kernel) z1 ok (star_cons z2) (stars_any z4)
  | sum => exact ep_callB S c3 nm (by decide +kernel) z1 ok (star_cons z2) (stars_any z4)
  | all => exact ep_callB S c3 nm (by decide +kernel) z1 ok (star_cons z2) (stars_any z4)
  | any => exact ep_callB S c3 nm (by decide +kernel) z1 ok (star_cons z2) (stars_any z4)
  | divmod => exact ep_callB S c3 nm (by decide +kernel) z1 ok (star_cons z2) (stars_any z4)
  | min => exact ep_callB S c3 nm (by decide +kernel) z1 ok (star_cons z2) (stars_any z4)
  | int => exact ep_callTy S c3 nm (by decide +kernel) z1 ok (star_cons z2) (stars_any z4)
  | str => exact ep_callTy S c3 nm (by decide +kernel) z1 ok (star_cons z2) (stars_any z4)
  | tuple => exact ep_callTy S c3 nm (by decide +kernel) z1 ok (star_cons z2) (stars_any z4)
  | list => exact ep_callTy S c3 nm (by decide +kernel) z1 ok (star_cons z2) (stars_any z4)
theorem stars_all {env : Env} {pos : Pos} : ∀ {es : List Expr}, es.all notStar = true → ((backTo pos (starEach es env)).all fun x => !x.1) = true
  | [], _ => rfl
  | e :: es, h => by
    rw [List.all_cons, Bool.and_eq_true] at h
    rw [star_cons h.1]
    show (true && (backTo pos (starEach es env)).all fun x => !x.1) = true
    rw [stars_all h.2]
    rfl
theorem recv_ok {o : Expr} {x : Str} {apos pos : Pos} {es : List Expr} {env : Env} (h : recvB o = true) (h1 : es.all notStar = true) (h2 : es.length < 30) (h3 : (apos.endLine == pos.line) = true) : ∃ pl : Sem Bool, eval (.Call (.Attribute o x apos) es [] pos) env = (do
      let ov ← eval o env
      standAt apos.atName
      let (f, first) ← holding [ov] (getMethod ov x pl)
      callWith pos f first (backTo pos (starEach es env)) (backToKw pos (keywordEach [] env))) := by
  have key : ∀ (w : Sem Value), (attributeBase o x env w = w) → ∃ pl : Sem Bool, (do
      let ov ← attributeBase o x env w
      standAt apos.atName
      methodCall o x apos pos env ov (es.length + 0) (backTo pos (starEach es env)) (backToKw pos (keywordEach [] env))) = (do
      let ov ← w
      standAt apos.atName
      let (f, first) ← holding [ov] (getMethod ov x pl)
      callWith pos f first (backTo pos (starEach es env)) (backToKw pos (keywordEach [] env))) := by
    intro w hw
    have hf : methodCallForm (es.length + 0) (backTo pos (starEach es env)) (backToKw pos (keywordEach [] env)) = true := by
      unfold methodCallForm
      rw [stars_all h1]
      have : decide (es.length + 0 + (if (backToKw pos (keywordEach [] env)).isEmpty = true then 0 else 1) < 30) = true := decide_eq_true (by show es.length + 0 + 0 < 30; omega)
      rw [this]
      rfl
    refine ⟨(do let b ← importBound o env; pure (b.getD true)), ?_⟩
    rw [hw]
    unfold methodCall
    rw [hf]
    unfold calleeOf methodCallPos
    simp only [if_true, h3, Bool.not_true, Bool.false_or]
    rfl
  cases o <;> first | (cases h; done) | exact key _ (attr_base rfl) | skip
  rename_i f as ks ps
  refine key _ (attr_base ?_)
  cases f <;> first | rfl | skip
  cases as <;> first | rfl | skip
  cases ks <;> first | rfl | (cases h; done)
theorem ep_call0 {k : Nat} {x : Str} {p pos : Pos} {F : FR} {r : R} {fs : List Slot} (S : Sx X sc N) (G : DefAt X.prog X.w X.K X.mg X.base ι k x 0 F) (hr : Room k X.A) (hg : glB sc x = true) (hF : F [] (.ret r fs)) : Ep X ι Γ (.Call (.Name x p) [] [] pos) r := by
  intro σ H g
  obtain ⟨f, fd, ps, Fo, hm, hk, hb, hpn⟩ := G.ex
  refine WE.of (pe_call0 Fo hr (S.gl hg) hm hk hb .nil passL (gl_of hg).2.1) ?_
  show spD X.K ι 0 F [] H _ _
  refine ⟨rfl, [], .ret r fs, hF, args_im (ds := []) .nil, fun v H' hp hv => ?_⟩
  have s : Same H H' := fun b o e => hp.keep b o e (.inr fun i h => (no_mu (ds := []) h).elim)
  exact ⟨s, hv⟩
theorem ep_callV {k n i : Nat} {x : Str} {p pos : Pos} {F : FR} {r : R} {ds : List D} {fs : List Slot} {a : Addr} {fd : FuncData} {ps : List Str} {e : Expr} {es : List Expr} (S : Sx X sc N) (hN : N[i]? = some x) (hv : visB sc x = true) (hs : Γ[i]? = some (.im (.ref a)))
    (Fo : FnOk X.prog X.w X.K X.mg X.base (L2.CX X.prog X.w) k a fd ps (spD X.K ι n F)) (hk : PySem.W.keepIn X.K (.ref a) = true) (hb : Binds X.K fd ps []) (hr : Room k X.A) (ha : Eds X ι Γ (e :: es) ds) (hF : F (ds.map Slot.im) (.ret r fs)) (hl : ds.length = n)
    (he : starEach (e :: es) X.env = (false, eval e X.env) :: starEach es X.env) (hpl : (backTo pos (starEach es X.env)).any (·.1) = false) : Ep X ι Γ (.Call (.Name x p) (e :: es) [] pos) r := by
  intro σ H g
  obtain ⟨v1, v2, v3⟩ := vis_of hv
  refine WE.of (pe_callL (i := i) Fo hr (by rw [S.hN]; exact hN) (by rw [S.hsc]; exact v1) hk hb .nil passL (pa_wa X _) v2 v3 he hpl) ?_
  obtain ⟨v, e1, r1⟩ := g.ok i _ hs
  cases r1
  refine ⟨e1, ?_⟩
  refine (ha σ H g).mono fun vs H1 ⟨s1, r1⟩ => ?_
  show spD X.K ι n F (vs ++ []) H1 _ _
  rw [List.append_nil]
  refine ⟨by rw [r1.length]; exact hl, _, .ret r fs, hF, args_im r1, fun v H' hp hv => ⟨s1.trans fun b o e => hp.keep b o e (.inr fun i h => (no_mu h).elim), hv.older s1⟩⟩
theorem ekw_ok (ih : IH G T N ι n) (S : Sx X sc N) (g : GOk X ι G T) : ∀ {es : List PE} {kws : List Keyword} {ds : List D}, es.length = kws.length → ((es.zip kws).all fun p => chkP G N n sc p.1 p.2.value) = true → mapO (fun e => (evP T n e Γ).bind R.toD) es = some ds → Ekw X ι Γ kws ds
  | [], [], ds, _, _, h => by cases h; exact ekw_nil
  | [], _ :: _, _, l, _, _ => by cases l
  | _ :: _, [], _, l, _, _ => by cases l
  | e :: es, ⟨nm, v, kp⟩ :: kws, ds, l, c, h => by
    obtain ⟨d, ds', h1, h2, rfl⟩ := mapO_cons h
    rw [List.zip_cons_cons, List.all_cons] at c
    obtain ⟨c1, c2⟩ := and_split c
    obtain ⟨r, e1, e2⟩ := obind_some h1
    exact ekw_cons (ep_d (ih X sc e v Γ r S g c1 e1).ep (toD_of e2)) (ekw_ok ih S g (by simpa using l) c2 h2)
theorem ep_tyn (S : Sx X sc N) (g : GOk X ι G T) {t : Ty} {x : Str} {p : Pos} (hg : glB sc x = true) (hx : x = tyS t) : (∀ tn, tyN t = .type tn → Ep X ι Γ (.Name x p) (.im (.ty tn))) := by
  intro tn e σ H gr
  subst hx
  have nm : ∀ y : Str, y ∈ bnames → X.mg y = none := g.bn
  cases t with
  | cls j => cases e
  | int => cases e; exact WE.of (pe_bltn (v := .ty "int") (S.gl hg) (nm _ (by decide +kernel)) (by decide +kernel) rfl) ⟨Same.refl _, .ty _⟩
  | bool => cases e; exact WE.of (pe_bltn (v := .ty "bool") (S.gl hg) (nm _ (by decide +kernel)) (by decide +kernel) rfl) ⟨Same.refl _, .ty _⟩
  | str => cases e; exact WE.of (pe_bltn (v := .ty "str") (S.gl hg) (nm _ (by decide +kernel)) (by decide +kernel) rfl) ⟨Same.refl _, .ty _⟩
  | tuple => cases e; exact WE.of (pe_bltn (v := .ty "tuple") (S.gl hg) (nm _ (by decide +kernel)) (by decide +kernel) rfl) ⟨Same.refl _, .ty _⟩
  | list => cases e; exact WE.of (pe_bltn (v := .ty "list") (S.gl hg) (nm _ (by decide +kernel)) (by decide +kernel) rfl) ⟨Same.refl _, .ty _⟩
  | dict => cases e; exact WE.of (pe_bltn (v := .ty "dict") (S.gl hg) (nm _ (by decide +kernel)) (by decide +kernel) rfl) ⟨Same.refl _, .ty _⟩
theorem look_ep {a : Expr} {r : R} {d : D} (h : Ep X ι Γ a r) (e : r.lookD = some d) : ∃ q : R, Ep X ι Γ a q ∧ (q = .im d ∨ ∃ ds, q = .vo (.lst ds) ∧ d = .lst ds) := by
  unfold R.lookD at e
  split at e
  · cases e; exact ⟨_, h, .inl rfl⟩
  · cases e; exact ⟨_, ep_d h .lst, .inl rfl⟩
  · cases e; exact ⟨_, h, .inr ⟨_, rfl, rfl⟩⟩
  · cases e
theorem ep_isiO (S : Sx X sc N) (g : GOk X ι G T) {t : Ty} {y : Str} {p p' pos : Pos} {a : Expr} {ds : List D} {b : Bool} (hg : glB sc "isinstance" = true) (hq : Ep X ι Γ a (.vo (.lst ds))) (h : isiD T.cls (.lst ds) t = some b) (hx : glB sc y = true) (hn : isTyB G t y = true) (hs : notStar a = true) :
    Ep X ι Γ (.Call (.Name "isinstance" p) [a, .Name y p'] [] pos) (.im (.bl b)) := by
  have nm : X.mg "isinstance" = none := g.bn _ (by decide +kernel)
  have st : starEach [a, .Name y p'] X.env = (false, eval a X.env) :: starEach [.Name y p'] X.env := star_cons hs
  have hb : ∀ j, t ≠ .cls j := fun j z => by
    subst z
    cases h
  have e : ∃ tn, tyN t = .type tn := by cases t <;> first | exact ⟨_, rfl⟩ | exact absurd rfl (hb _)
  obtain ⟨tn, e⟩ := e
  have hn' : y = tyS t := by
    cases t <;> first | exact dec hn | exact absurd rfl (hb _)
  exact ep_callB S hg nm (by decide +kernel) (eps_cons hq (eps_cons (ep_tyn S g hx hn' tn e) eps_nil) st) (c_isiO h hb e) st (stars_any (es := [.Name y p']) rfl)
theorem ep_isi (S : Sx X sc N) (g : GOk X ι G T) {t : Ty} {x : Str} {p p' pos : Pos} {a : Expr} {ra : R} {d : D} {b : Bool} (hg : glB sc "isinstance" = true) (ha : Ep X ι Γ a ra) (e2 : ra.lookD = some d) (h : isiD T.cls d t = some b) (hx : glB sc x = true) (hn : isTyB G t x = true) (hs : notStar a = true) :
    Ep X ι Γ (.Call (.Name "isinstance" p) [a, .Name x p'] [] pos) (.im (.bl b)) := by
  have nm : X.mg "isinstance" = none := g.bn _ (by decide +kernel)
  obtain ⟨q, hq, hd⟩ := look_ep ha e2
  have st : starEach [a, .Name x p'] X.env = (false, eval a X.env) :: starEach [.Name x p'] X.env := star_cons hs
  rcases hd with rfl | ⟨ds, rfl, rfl⟩
  · unfold isTyB at hn
    split at hn
    · rename_i j
      obtain ⟨n1, n2⟩ := and_split hn
      obtain ⟨⟨y, n⟩, d1, d2⟩ := omap_some (dec n1)
      cases d2
      obtain ⟨k, rm, da, _⟩ := g.make _ _ _ d1
      obtain ⟨f, fd, ps, dvV, dsV, Fo, mk, hm, _⟩ := da.ex
      have ic := g.ic _ (List.contains_iff_mem.mp n2)
      cases d <;> first | (cases h; done) | skip
      rename_i C fs
      obtain ⟨e1, e3⟩ := ite_some (show (if C = T.cls j then some true else none) = some b from h)
      cases e3
      subst e1
      have zc : Ep X ι Γ (.Name _ p') (.im (.ref (T.cls j))) := ep_glob S hx hm (v := .ref (T.cls j)) rfl fun H => .ref _
      exact ep_callB S hg nm (by decide +kernel) (eps_cons hq (eps_cons zc eps_nil) st) (c_isiC ic) st (stars_any (es := [.Name _ p']) rfl)
    · rename_i hc
      have hb : ∀ j, t ≠ .cls j := fun j z => by subst z; exact hc j rfl
      have e : ∃ tn, tyN t = .type tn := by cases t <;> first | exact ⟨_, rfl⟩ | exact absurd rfl (hb _)
      obtain ⟨tn, e⟩ := e
      exact ep_callB S hg nm (by decide +kernel) (eps_cons hq (eps_cons (ep_tyn S g hx (dec hn) tn e) eps_nil) st) (c_isi h hb e) st (stars_any (es := [.Name _ p']) rfl)
  · exact ep_isiO S g hg hq h hx hn hs
theorem evP_ok : ∀ n, IH G T N ι n
  | 0 => fun X sc e ex Γ r S g c h => by cases h
  | n + 1 => fun X sc e ex Γ r S g c h => by
    have ih := evP_ok n
    rw [evP_succ] at h
    unfold chkP at c
    dsimp only at c h
    split at c
    -- var
    · obtain ⟨c1, c2⟩ := and_split c
      obtain ⟨s, e1, e2⟩ := obind_some h
      refine pok_plain (ep_var S _ (dec c1) c2 e1 ?_) rfl
      cases s <;> first | (cases e2; done) | (cases e2; constructor)
    · cases h; rw [dec c]; exact pok_no ep_int rfl
    · cases h; rw [dec c]; exact pok_no ep_str rfl
    · cases h; rw [dec c]; exact pok_no ep_bl rfl
    · cases h; exact pok_no ep_non rfl
    -- con
    · obtain ⟨c1, c2⟩ := and_split c
      obtain ⟨v, u, h1, h2, h3⟩ := g.con _ _ (dec c1)
      cases h
      exact pok_plain (ep_glob S c2 h1 h2 h3) rfl
    -- bin
    · obtain ⟨c, c3⟩ := and_split c
      obtain ⟨c1, c2⟩ := and_split c
      obtain ⟨ra, e1, h⟩ := obind_some h
      obtain ⟨rb, e2, h⟩ := obind_some h
      have := dec c1
      subst this
      exact pok_no (ep_bin (ih _ _ _ _ _ _ S g c2 e1).ep (ih _ _ _ _ _ _ S g c3 e2).ep (binR_ok h)) rfl
    -- cmp
    · obtain ⟨c, c4⟩ := and_split c
      obtain ⟨c, c3⟩ := and_split c
      obtain ⟨c1, c2⟩ := and_split c
      obtain ⟨ra, e1, h⟩ := obind_some h
      obtain ⟨rb, e2, h⟩ := obind_some h
      obtain ⟨q, e3, e4⟩ := omap_some h
      have := dec c1
      subst this
      subst e4
      have o := cmpR_ok (X := X) (ι := ι) g.un e3
      have z1 := (ih _ _ _ _ _ _ S g c2 e1).ep
      have z2 := (ih _ _ _ _ _ _ S g c3 e2).ep
      exact ⟨ep_cmp z1 z2 o (notb c4), fun b e _ => by cases e; exact et_cmp z1 z2 o (notb c4), fun b e z => by cases z⟩
    -- chain
    · obtain ⟨c, c6⟩ := and_split c
      obtain ⟨c, c5⟩ := and_split c
      obtain ⟨c, c4⟩ := and_split c
      obtain ⟨c, c3⟩ := and_split c
      obtain ⟨c1, c2⟩ := and_split c
      obtain ⟨ra, e1, h⟩ := obind_some h
      obtain ⟨rb, e2, h⟩ := obind_some h
      obtain ⟨rc, e3, h⟩ := obind_some h
      obtain ⟨p, e4, h⟩ := obind_some h
      obtain ⟨q, e5, e6⟩ := omap_some h
      have := dec c1
      subst this
      have := dec c2
      subst this
      subst e6
      have o := cmpR_ok (X := X) (ι := ι) g.un e4
      have o' := cmpR_ok (X := X) (ι := ι) g.un e5
      have z1 := (ih _ _ _ _ _ _ S g c3 e1).ep
      have z2 := (ih _ _ _ _ _ _ S g c4 e2).ep
      have z3 := (ih _ _ _ _ _ _ S g c5 e3).ep
      exact ⟨ep_chain z1 z2 z3 o (fun _ => o') (notb c6), fun b e _ => by cases e; exact et_chain z1 z2 z3 o (fun _ => o') (notb c6), fun b e z => by cases z⟩
    -- and
    · obtain ⟨c, c4⟩ := and_split c
      obtain ⟨c, c3⟩ := and_split c
      obtain ⟨c1, c2⟩ := and_split c
      obtain ⟨p, h1, h⟩ := obind_some h
      obtain ⟨ra, e1, e2⟩ := obind_some h1
      have := bl_of e2
      subst this
      have z1 := ih _ _ _ _ _ _ S g c1 e1
      cases p with
      | false =>
        cases h
        exact pok_and (q := true) z1 c2 fun z => nomatch z
      | true =>
        rw [if_pos rfl] at h
        obtain ⟨q, h2, h3⟩ := omap_some h
        obtain ⟨rb, e3, e4⟩ := obind_some h2
        have := bl_of e4
        subst this
        subst h3
        have z2 := ih _ _ _ _ _ _ S g c3 e3
        exact pok_and (p := true) z1 c2 fun _ => ⟨ep_one z2.ep, ew_and1 (z2.et _ rfl c4)⟩
    · obtain ⟨c, c3⟩ := and_split c
      obtain ⟨c1, c2⟩ := and_split c
      obtain ⟨p, h1, h⟩ := obind_some h
      obtain ⟨ra, e1, e2⟩ := obind_some h1
      have := bl_of e2
      subst this
      have z1 := ih _ _ _ _ _ _ S g c1 e1
      cases p with
      | false =>
        cases h
        exact pok_and (q := true) z1 c2 fun z => nomatch z
      | true =>
        rw [if_pos rfl] at h
        obtain ⟨q, h2, h3⟩ := omap_some h
        obtain ⟨rb, e3, e4⟩ := obind_some h2
        have := bl_of e4
        subst this
        subst h3
        have z2 := ih _ _ _ _ _ _ S g c3 e3
        exact pok_and (p := true) z1 c2 fun _ => ⟨z2.ep, z2.ew _ rfl rfl⟩
    -- or
    · obtain ⟨c, c4⟩ := and_split c
      obtain ⟨c, c3⟩ := and_split c
      obtain ⟨c1, c2⟩ := and_split c
      obtain ⟨p, h1, h⟩ := obind_some h
      obtain ⟨ra, e1, e2⟩ := obind_some h1
      have := bl_of e2
      subst this
      have z1 := ih _ _ _ _ _ _ S g c1 e1
      cases p with
      | true =>
        cases h
        exact pok_or (q := true) z1 c2 fun z => nomatch z
      | false =>
        rw [if_neg (by simp)] at h
        obtain ⟨q, h2, h3⟩ := omap_some h
        obtain ⟨rb, e3, e4⟩ := obind_some h2
        have := bl_of e4
        subst this
        subst h3
        have z2 := ih _ _ _ _ _ _ S g c3 e3
        exact pok_or (p := false) z1 c2 fun _ => ⟨ep_one z2.ep, ew_or1 (z2.et _ rfl c4)⟩
    · obtain ⟨c, c3⟩ := and_split c
      obtain ⟨c1, c2⟩ := and_split c
      obtain ⟨p, h1, h⟩ := obind_some h
      obtain ⟨ra, e1, e2⟩ := obind_some h1
      have := bl_of e2
      subst this
      have z1 := ih _ _ _ _ _ _ S g c1 e1
      cases p with
      | true =>
        cases h
        exact pok_or (q := true) z1 c2 fun z => nomatch z
      | false =>
        rw [if_neg (by simp)] at h
        obtain ⟨q, h2, h3⟩ := omap_some h
        obtain ⟨rb, e3, e4⟩ := obind_some h2
        have := bl_of e4
        subst this
        subst h3
        have z2 := ih _ _ _ _ _ _ S g c3 e3
        exact pok_or (p := false) z1 c2 fun _ => ⟨z2.ep, z2.ew _ rfl rfl⟩
    -- not
    · obtain ⟨c1, c2⟩ := and_split c
      obtain ⟨p, h1, h2⟩ := omap_some h
      obtain ⟨ra, e1, e2⟩ := obind_some h1
      have := bl_of e2
      subst this
      subst h2
      have z1 := ih _ _ _ _ _ _ S g c1 e1
      exact ⟨ep_not z1.ep, fun b e _ => by cases e; exact et_not (z1.et _ rfl c2), fun b e z => by cases z⟩
    -- neg
    · obtain ⟨p, h1, h2⟩ := omap_some h
      obtain ⟨ra, e1, e2⟩ := obind_some h1
      have := int_of e2
      subst this
      subst h2
      exact pok_no (ep_neg (ih _ _ _ _ _ _ S g c e1).ep) rfl
    -- ite
    · obtain ⟨c, c4⟩ := and_split c
      obtain ⟨c, c3⟩ := and_split c
      obtain ⟨c1, c2⟩ := and_split c
      obtain ⟨p, h1, h⟩ := obind_some h
      obtain ⟨ra, e1, e2⟩ := obind_some h1
      have := bl_of e2
      subst this
      have z1 := ih _ _ _ _ _ _ S g c1 e1
      cases p with
      | true => rw [if_pos rfl] at h; exact pok_no (ep_ifT (z1.et _ rfl c2) rfl (ih _ _ _ _ _ _ S g c3 h).ep) rfl
      | false => rw [if_neg (by simp)] at h; exact pok_no (ep_ifF (z1.et _ rfl c2) rfl (ih _ _ _ _ _ _ S g c4 h).ep) rfl
    -- tup, lst
    · obtain ⟨ds, h1, h⟩ := obind_some h
      obtain ⟨hz, h⟩ := gd_some h
      subst h
      exact pok_no (ep_tup (eds_ok ih S g c h1).1 hz) rfl
    · obtain ⟨ds, h1, h⟩ := obind_some h
      obtain ⟨hz, h⟩ := gd_some h
      subst h
      exact pok_no (ep_lst (eds_ok ih S g c h1).1 hz) rfl
    -- ix
    · obtain ⟨c, c3⟩ := and_split c
      obtain ⟨c1, c2⟩ := and_split c
      obtain ⟨ra, e1, h⟩ := obind_some h
      obtain ⟨rb, e2, h⟩ := obind_some h
      exact pok_plain (ep_ix (ih _ _ _ _ _ _ S g c1 e1).ep (ih _ _ _ _ _ _ S g c2 e2).ep (ixR_ok h) (plain_ix c3)) rfl
    -- sl
    · obtain ⟨c, c3⟩ := and_split c
      obtain ⟨c1, c2⟩ := and_split c
      obtain ⟨ra, e1, h⟩ := obind_some h
      obtain ⟨l, e2, h⟩ := obind_some h
      obtain ⟨u, e3, h⟩ := obind_some h
      exact pok_plain (ep_slice (ih _ _ _ _ _ _ S g c1 e1).ep (epo_ok ih S g c2 e2) (epo_ok ih S g c3 e3) (slR_ok h)) rfl
    -- rev
    · obtain ⟨ra, e1, h⟩ := obind_some h
      exact pok_plain (ep_rev (ih _ _ _ _ _ _ S g c e1).ep h) rfl
    -- fld
    · obtain ⟨c, c4⟩ := and_split c
      obtain ⟨c, c3⟩ := and_split c
      obtain ⟨c1, c2⟩ := and_split c
      obtain ⟨ra, e1, h⟩ := obind_some h
      have := dec c2
      subst this
      obtain ⟨f1, f2⟩ := g.fl _ _ (List.contains_iff_mem.mp c3)
      have z := (ih _ _ _ _ _ _ S g c1 e1).ep
      split at h
      · obtain ⟨q, h2⟩ := ite_some h
        subst q
        obtain ⟨d, e3, e4⟩ := omap_some h2
        subst e4
        exact pok_plain (ep_fld z .im f1 f2 e3 (attr_base c4)) rfl
      · obtain ⟨q, h2⟩ := ite_some h
        subst q
        obtain ⟨d, e3, e4⟩ := omap_some h2
        subst e4
        exact pok_plain (ep_fld z .vo f1 f2 e3 (attr_base c4)) rfl
      · cases h
    -- call
    · obtain ⟨c, c4⟩ := and_split c
      obtain ⟨c, c3⟩ := and_split c
      obtain ⟨c1, c2⟩ := and_split c
      obtain ⟨⟨x', n'⟩, d1, d2⟩ := omap_some (dec c1)
      obtain ⟨⟨x'', n''⟩, d3, d4⟩ := omap_some (dec c2)
      rw [d1] at d3
      cases d3
      cases d2
      cases d4
      obtain ⟨k, rm, da⟩ := g.call _ _ _ d1
      obtain ⟨ds, h1, h2⟩ := obind_some h
      obtain ⟨z1, z2, z3⟩ := eds_ok ih S g c4 h1
      rw [List.all_cons] at z2
      obtain ⟨z2, z4⟩ := and_split z2
      split at h2
      · rename_i e1
        cases h2
        exact pok_plain (ep_call S da rm c3 z1 e1 z3 (star_cons z2) (stars_any z4)) rfl
      · cases h2
    -- meth
    · obtain ⟨c, c4⟩ := and_split c
      obtain ⟨c, c3⟩ := and_split c
      obtain ⟨c1, c2⟩ := and_split c
      obtain ⟨⟨x', n'⟩, d1, d2⟩ := omap_some (dec c2)
      obtain ⟨⟨x'', n''⟩, d3, d4⟩ := omap_some (dec c3)
      rw [d1] at d3
      cases d3
      cases d2
      cases d4
      obtain ⟨mn, k, rm, da⟩ := g.meth _ _ _ d1
      subst mn
      obtain ⟨ro, h1, h2⟩ := obind_some h
      have z0 := (ih _ _ _ _ _ _ S g c1 h1).ep
      split at h2
      · obtain ⟨ds, h3, h4⟩ := obind_some h2
        cases h3
        obtain ⟨q, h5⟩ := ite_some h4
        obtain ⟨q, q2⟩ := q
        subst q
        split at h5
        · rename_i e1
          cases h5
          obtain ⟨c4, c6⟩ := and_split c4
          obtain ⟨pl, hp⟩ := recv_ok (env := X.env) (x := T.mnm _) (es := []) (pos := _) (apos := _) c4 rfl (by decide) c6
          exact pok_plain (ep_meth0 da rm z0 e1 q2 hp) rfl
        · cases h5
      · cases h2
    · obtain ⟨c, c5⟩ := and_split c
      obtain ⟨c, c4⟩ := and_split c
      obtain ⟨c, c3⟩ := and_split c
      obtain ⟨c1, c2⟩ := and_split c
      obtain ⟨⟨x', n'⟩, d1, d2⟩ := omap_some (dec c2)
      obtain ⟨⟨x'', n''⟩, d3, d4⟩ := omap_some (dec c3)
      rw [d1] at d3
      cases d3
      cases d2
      cases d4
      obtain ⟨mn, k, rm, da⟩ := g.meth _ _ _ d1
      subst mn
      obtain ⟨ro, h1, h2⟩ := obind_some h
      have z0 := (ih _ _ _ _ _ _ S g c1 h1).ep
      split at h2
      · obtain ⟨ds, h3, h4⟩ := obind_some h2
        obtain ⟨z1, z2, z3⟩ := eds_ok ih S g c5 h3
        rw [List.all_cons] at z2
        obtain ⟨z2, z4⟩ := and_split z2
        obtain ⟨q, h5⟩ := ite_some h4
        obtain ⟨q, q2⟩ := q
        subst q
        split at h5
        · rename_i e1
          cases h5
          obtain ⟨c4, c6⟩ := and_split c4
          obtain ⟨c6, c7⟩ := and_split c6
          obtain ⟨pl, hp⟩ := recv_ok (env := X.env) (x := T.mnm _) (es := _ :: _) (pos := _) (apos := _) c4 (by rw [List.all_cons, z2, z4]; rfl) (dec c6) c7
          exact pok_plain (ep_meth da rm z0 z1 e1 q2 (by rw [z3]; rfl) (star_cons z2) (stars_any z4) hp) rfl
        · cases h5
      · cases h2
    -- make
    · obtain ⟨c, c4⟩ := and_split c
      obtain ⟨c, c3⟩ := and_split c
      obtain ⟨c1, c2⟩ := and_split c
      obtain ⟨⟨x', n'⟩, d1, d2⟩ := omap_some (dec c1)
      obtain ⟨⟨x'', n''⟩, d3, d4⟩ := omap_some (dec c2)
      rw [d1] at d3
      cases d3
      cases d2
      cases d4
      obtain ⟨k, rm, da, i1, i2, i3⟩ := g.make _ _ _ d1
      obtain ⟨ds, h1, h2⟩ := obind_some h
      obtain ⟨z1, z2, z3⟩ := eds_ok ih S g c4 h1
      rw [List.all_cons] at z2
      obtain ⟨z2, z4⟩ := and_split z2
      split at h2
      · rename_i e1
        obtain ⟨q, h3⟩ := ite_some h2
        obtain ⟨q, q2⟩ := q
        subst q
        cases h3
        exact pok_plain (ep_make S da rm c3 z1 e1 (by rw [q2]; exact i1) i2 (by rw [z3, i3]) (star_cons z2) (stars_any z4)) rfl
      · cases h2
    -- bi
    · obtain ⟨c, c4⟩ := and_split c
      obtain ⟨c, c3⟩ := and_split c
      obtain ⟨c1, c2⟩ := and_split c
      obtain ⟨rs, h1, h2⟩ := obind_some h
      obtain ⟨z1, z2⟩ := eps_ok ih S g c4 h1
      rw [List.all_cons] at z2
      obtain ⟨z2, z4⟩ := and_split z2
      have := dec c2
      subst this
      exact pok_plain (ep_bi S g c1 c3 z1 (biR_ok S.calm g.un h2) z2 z4) rfl
    -- isi
    · obtain ⟨c, c5⟩ := and_split c
      obtain ⟨c, c4⟩ := and_split c
      obtain ⟨c, c3⟩ := and_split c
      obtain ⟨c1, c2⟩ := and_split c
      have := dec c1
      subst this
      obtain ⟨d, h1, h2⟩ := obind_some h
      obtain ⟨ra, e1, e2⟩ := obind_some h1
      obtain ⟨b, h3, h4⟩ := omap_some h2
      subst h4
      have z := (ih _ _ _ _ _ _ S g c3 e1).ep
      obtain ⟨c6, c7⟩ := and_split c4
      exact pok_plain (ep_isi S g c2 z e2 h3 c6 c7 c5) rfl
    -- kd
    · obtain ⟨c1, c2⟩ := and_split c
      obtain ⟨k1, k2⟩ := g.kd _ _ (dec c1)
      cases h
      exact pok_plain (ep_glob S c2 k1 (v := .ref _) rfl fun H => .ref _) rfl
    -- kin
    · obtain ⟨c, c4⟩ := and_split c
      obtain ⟨c, c3⟩ := and_split c
      obtain ⟨c1, c2⟩ := and_split c
      obtain ⟨k1, k2⟩ := g.kd _ _ (dec c3)
      obtain ⟨ra, e1, h⟩ := obind_some h
      have z1 := (ih _ _ _ _ _ _ S g c2 e1).ep
      have := dec c1
      subst this
      split at h
      · cases h
        have o := kin_ok (X := X) (ι := ι) (neg := ‹Bool›) (z := ‹Str›) k2
        have z2 : ∀ p, Ep X ι Γ (.Name _ p) (.im (.ref _)) := fun p => ep_glob (pos := p) S c4 k1 (v := .ref _) rfl fun H => .ref _
        exact ⟨ep_cmp z1 (z2 _) o rfl, fun b e _ => by cases e; exact et_cmp z1 (z2 _) o rfl, fun b e z => by cases z⟩
      · cases h
    -- kget
    · obtain ⟨c, c4⟩ := and_split c
      obtain ⟨c, c3⟩ := and_split c
      obtain ⟨c1, c2⟩ := and_split c
      obtain ⟨k1, k2⟩ := g.kd _ _ (dec c2)
      obtain ⟨ra, e1, h⟩ := obind_some h
      have z1 := (ih _ _ _ _ _ _ S g c1 e1).ep
      split at h
      · obtain ⟨dd, e2, e3⟩ := omap_some h
        subst e3
        exact pok_plain (ep_ix (ep_glob S c3 k1 (v := .ref _) rfl fun H => .ref _) z1 (kget_ok k2 e2) (plain_ix c4)) rfl
      · cases h
    -- callV
    · obtain ⟨c, c4⟩ := and_split c
      obtain ⟨c, c3⟩ := and_split c
      obtain ⟨c1, c2⟩ := and_split c
      dsimp only at h
      split at h
      · rename_i e0
        obtain ⟨j, h1, h⟩ := obind_some h
        obtain ⟨ds, h2, h⟩ := obind_some h
        obtain ⟨z1, z2, z3⟩ := eds_ok ih S g c4 h2
        rw [List.all_cons] at z2
        obtain ⟨z2, z4⟩ := and_split z2
        split at h
        · rename_i e1
          cases h
          have m := List.mem_of_find?_eq_some h1
          rw [g.fns] at m
          obtain ⟨⟨j', n'⟩, m1, m2⟩ := List.mem_map.mp m
          cases m2
          have ar : n' = _ := beq_iff_eq.mp (List.all_eq_true.mp c3 _ m1)
          have ad : T.adr j' = _ := of_decide_eq_true (p := T.adr j' = _) (by have q := List.find?_some h1; exact q)
          obtain ⟨k, fd, ps, rm, Fo, kp, bd⟩ := g.fn _ _ m1
          exact pok_plain (ep_callV S (dec c1) c2 e0 (ad ▸ Fo) (ad ▸ kp) bd rm z1 e1 (by rw [z3]; exact ar.symm) (star_cons z2) (stars_any z4)) rfl
        · cases h
      · cases h
    -- callK
    · obtain ⟨c, c5⟩ := and_split c
      obtain ⟨c, c4⟩ := and_split c
      obtain ⟨c, c3⟩ := and_split c
      obtain ⟨c1, c2⟩ := and_split c
      obtain ⟨hp, k, f, fd, ps, rm, Fo, hm, hk, hb⟩ := g.kw _ _ _ (dec c1)
      obtain ⟨ds, h1, h⟩ := obind_some h
      obtain ⟨hl, h⟩ := ite_some h
      split at h
      · rename_i e1
        cases h
        exact pok_plain (ep_callKw S Fo rm hm hk hb c3 (ekw_ok ih S g (dec c4) c5 h1) (dec c2) hl rfl hp e1) rfl
      · cases h
    -- call0
    · obtain ⟨c1, c2⟩ := and_split c
      obtain ⟨k, rm, da⟩ := g.call _ _ _ (dec c1)
      dsimp only at h
      split at h
      · rename_i e1
        cases h
        exact pok_plain (ep_call0 S da rm c2 e1) rfl
      · cases h
    -- oeq
    · obtain ⟨c, c4⟩ := and_split c
      obtain ⟨c, c3⟩ := and_split c
      obtain ⟨c1, c2⟩ := and_split c
      have d1 := dec c1
      obtain ⟨mn, k, rm, da⟩ := g.meth _ _ _ d1
      obtain ⟨ra, e1, h⟩ := obind_some h
      obtain ⟨rb, e2, h⟩ := obind_some h
      have z1 := (ih _ _ _ _ _ _ S g c2 e1).ep
      have z2 := (ih _ _ _ _ _ _ S g c3 e2).ep
      split at h
      · obtain ⟨⟨q1, q2⟩, h⟩ := ite_some h
        subst q1
        subst q2
        split at h
        · rename_i e3
          cases h
          have o := oeq_ok (ι := ι) da rm e3
          exact ⟨ep_cmp z1 z2 o (notb c4), fun b e _ => by cases e; exact et_cmp z1 z2 o (notb c4), fun b e z => by cases z⟩
        · cases h
      · cases h
    -- lc
    · obtain ⟨c, c7⟩ := and_split c
      obtain ⟨c, c6⟩ := and_split c
      obtain ⟨c, c5⟩ := and_split c
      obtain ⟨c, c4⟩ := and_split c
      obtain ⟨c, c3⟩ := and_split c
      obtain ⟨c1, c2⟩ := and_split c
      have := dec c1
      subst this
      obtain ⟨rs, h1, h⟩ := obind_some h
      obtain ⟨ds, h2, h⟩ := obind_some h
      obtain ⟨h3, h⟩ := ite_some h
      obtain ⟨ys, h4, h5⟩ := omap_some h
      subst h5
      exact pok_no (ep_lc S (lcOk_of ih S g c3 c4 c6 c7 h1 h2 h3 h4) c5 (folded_set c2)) rfl
    · cases c
end
end DL
/-! DL, part u: a comprehension whose elements change what slots own. -/
namespace DL
open PySem PySem.Spec L2

/-- the slots of a block's names may hold nothing own -/
def freeS : Option Slot → Bool | some .un => true | some (.im _) => true | _ => false
theorem freeS_own {s : Option Slot} (h : freeS s = true) : ¬ isOwn s := by
  intro z
  unfold freeS at h
  split at h
  · exact z
  · exact z
  · cases h
section
variable {X : Cx} {ι : Addr → Nat → Prop} {Γ Γ1 Γ2 Γ' : List Slot} {sc scope : Scope} {N : List Str} {tg it elt : Expr} {pos p : Pos} {ds : List D} {K : PySem.W.Frag} {H H2 : Hp} {C : Cf} {σ σ2 : L2.St} {vs : List Nat}
/-- the same own things under other names -/
theorem EnvOk.swap (g : EnvOk K ι C H σ Γ) (hl : σ2.length = Γ2.length) (h1 : ∀ j, j ∉ vs → σ2[j]? = σ[j]? ∧ Γ2[j]? = Γ[j]?) (h2 : ∀ j ∈ vs, freeS Γ[j]? = true ∧ freeS Γ2[j]? = true) (h3 : ∀ j ∈ vs, ∀ s, Γ2[j]? = some s → SlotOk K ι H s σ2[j]?) : EnvOk K ι C H σ2 Γ2 := by
  have ow : ∀ j, isOwn Γ2[j]? → j ∉ vs ∧ isOwn Γ[j]? ∧ σ2[j]? = σ[j]? := fun j z => by
    by_cases m : j ∈ vs
    · exact absurd z (freeS_own (h2 j m).2)
    · obtain ⟨e1, e2⟩ := h1 j m
      exact ⟨m, e2 ▸ z, e1⟩
  refine ⟨⟨hl, fun j s e => ?_⟩, fun i j p ne hi hj e1 e2 => ?_, fun i m p e1 e2 => ?_, fun i m p e1 e2 => ?_, fun i p e => ?_, g.fr, g.tr⟩
  · by_cases m : j ∈ vs
    · exact h3 j m s e
    · obtain ⟨e1, e2⟩ := h1 j m
      rw [e1]; exact g.ok j s (e2 ▸ e)
  · obtain ⟨_, a, b⟩ := ow i hi
    obtain ⟨_, c, d⟩ := ow j hj
    exact g.dis i j p ne a c (b ▸ e1) (d ▸ e2)
  · obtain ⟨m', _, b⟩ := ow i (by rw [e1]; trivial)
    exact g.new i m p ((h1 i m').2 ▸ e1) (b ▸ e2)
  · obtain ⟨m', _, b⟩ := ow i (by rw [e1]; trivial)
    exact g.mus i m p ((h1 i m').2 ▸ e1) (b ▸ e2)
  · obtain ⟨m, e'⟩ := g.muP i p e
    refine ⟨m, ?_⟩
    by_cases z : i ∈ vs
    · have q := (h2 i z).1
      rw [e'] at q; cases q
    · rw [(h1 i z).2]; exact e'
/-- a new thing of nobody's -/
theorem EnvOk.updNew {q : Addr} {o' : HO} (g : EnvOk K ι C H σ Γ) (n0 : C.H0 q = none) (no : ¬ OwnedBy σ Γ q) (ni : ∀ o, H q = some o → ¬ Im ι o) : EnvOk K ι C (upd H q o') σ Γ := by
  have kp : Kp ι H (upd H q o') := fun b w e i => by
    rw [upd_ne (fun z => by subst z; exact ni w e i)]; exact e
  have own : ∀ (i : Nat) (p : Addr), isOwn Γ[i]? → σ[i]? = some (some (.ref p)) → p ≠ q := fun i p h1 h2 z => no ⟨i, h1, z ▸ h2⟩
  refine ⟨⟨g.len, fun i sl hs => ?_⟩, g.dis, g.new, g.mus, g.muP, fun b w e i => ?_, fun b w e => ?_⟩
  · have z := g.ok i sl hs
    cases sl with
    | un => trivial
    | im d => obtain ⟨v, e1, e2⟩ := z; exact ⟨v, e1, e2.mono kp⟩
    | ow m' =>
      obtain ⟨p', e1, e2⟩ := z
      exact ⟨p', e1, e2.same kp fun o e => by rw [upd_ne (own i p' (by rw [hs]; trivial) e1)]; exact e⟩
    | mu m' =>
      obtain ⟨p', e1, e2⟩ := z
      exact ⟨p', e1, e2.same kp fun o e => by rw [upd_ne (own i p' (by rw [hs]; trivial) e1)]; exact e⟩
  · rw [upd_ne (ne_of_none e n0)]; exact g.fr b w e i
  · obtain ⟨o2, e2⟩ := g.tr b w e
    exact ⟨o2, by rw [upd_ne (ne_of_none e n0)]; exact e2⟩
theorem wipe_get : ∀ (vs : List Nat) (σ : L2.St) (j : Nat), j ∉ vs → (wipe σ vs)[j]? = σ[j]?
  | [], _, _, _ => rfl
  | i :: vs, σ, j, h => by
    show ((wipe σ vs).set i none)[j]? = _
    rw [List.getElem?_set_ne (fun z => h (by rw [z]; exact List.mem_cons_self)), wipe_get vs σ j (fun z => h (List.mem_cons_of_mem _ z))]
theorem wipe_len : ∀ (vs : List Nat) (σ : L2.St), (wipe σ vs).length = σ.length
  | [], _ => rfl
  | i :: vs, σ => by
    show ((wipe σ vs).set i none).length = _
    rw [List.length_set, wipe_len vs σ]
/-- the turns of a comprehension, in terms of slots: what is stored, what the element comes to, what then is -/
structure Turn (X : Cx) (ι : Addr → Nat → Prop) (scope : Scope) (tg elt : Expr) (vs : List Nat) (d : D) (Γ : List Slot) (y : D) (Γ' : List Slot) : Prop where
  ex : ∃ Γ2 Γ3, Ebt X ι scope vs tg d Γ Γ2 ∧ (∀ s0 H0 C cl fp, Ev (BX X scope s0 H0 C cl fp) ι Γ2 elt (.im y) Γ3) ∧ Kd Γ2 Γ3 ∧ Γ2.length = Γ.length ∧ (∀ j, j ∉ vs → Γ2[j]? = Γ[j]?) ∧ (∀ j ∈ vs, freeS Γ[j]? = true ∧ freeS Γ2[j]? = true) ∧
    (Γ3.length = Γ.length → Γ'.length = Γ.length ∧ (∀ j, j ∉ vs → Γ'[j]? = Γ3[j]?) ∧ (∀ j ∈ vs, Γ'[j]? = Γ[j]?))
  kd : Kd Γ Γ'
inductive Turns (X : Cx) (ι : Addr → Nat → Prop) (scope : Scope) (tg elt : Expr) (vs : List Nat) : List D → List Slot → List D → List Slot → Prop
  | nil {Γ : List Slot} : Turns X ι scope tg elt vs [] Γ [] Γ
  | cons {d y : D} {ds ys : List D} {Γ Γ1 Γ2 : List Slot} : Turn X ι scope tg elt vs d Γ y Γ1 → Turns X ι scope tg elt vs ds Γ1 ys Γ2 → Turns X ι scope tg elt vs (d :: ds) Γ (y :: ys) Γ2
theorem Kd.len0 {i : Nat} (k : Kd Γ Γ') (h : ¬ isOwn Γ[i]?) : ¬ isOwn Γ'[i]? := fun z => h (k i z)
theorem ev_lc {own : List (Str × Nat)} {ys : List D} (S : Sx X sc N) (hi : Eiv X ι Γ tg it ds Γ1) (ht : Turns X ι scope tg elt (own.map (·.2)) ds Γ1 ys Γ2) (hz : ds.length ≤ sizeLine) (hb : blkC N sc scope own = true) (hs : ∀ x, foldedSetIterable it X.env x = pure x) :
    Ev X ι Γ (.ListComp elt [⟨tg, it, [], 0⟩] scope pos) (.ow (.lst ys)) Γ2 := by
  have kds : ∀ {ds : List D} {Γ1 : List Slot} {ys : List D} {Γ2 : List Slot}, Turns X ι scope tg elt (own.map (·.2)) ds Γ1 ys Γ2 → Kd Γ1 Γ2 := by
    intro ds Γ1 ys Γ2 t
    induction t with
    | nil => exact Kd.refl
    | cons t _ ih =>
      exact t.kd.trans ih
  obtain ⟨kd, wi, hp, hw⟩ := hi
  refine ⟨kd.trans (kds ht), fun C σ H g => ?_⟩
  refine WE.of (pe_lc (own := own) S.calm (by rw [S.hN]; exact S.nd) hp (by rw [S.hN, S.hsc]; exact blkOk_by hb) (fun s H C cl fp => pg_wgb) (fun s H C cl fp => pts_wtb) (fun s H C cl fp => pe_web) hs) ?_
  refine hw C σ H _ g fun J G H1 g1 f1 hG W => ?_
  intro D' hD
  have nD : H D' = none := f1.free hD
  have n0 : C.H0 D' = none := g.free nD
  have no1 : ¬ OwnedBy σ Γ1 D' := fun z => g.toEnvR.notOwned nD (kd.owned z)
  refine lc_it W.2 (fun i H' => ∃ acc Δ yd yr, H' D' = some (.lst acc) ∧ Reps X.K ι H' yd acc ∧ yd.length = i ∧ ys = yd ++ yr ∧ Turns X ι scope tg elt (own.map (·.2)) (ds.drop i) Δ yr Γ2 ∧ EnvOk X.K ι C H' σ Δ ∧ FrE ι σ Γ1 H1 H' ∧ Kd Γ1 Δ ∧ G H')
    ⟨[], Γ1, [], ys, upd_same, .nil, rfl, rfl, by rw [List.drop_zero]; exact ht, g1.updNew n0 no1 (fun o e => by rw [hD] at e; cases e), (same_new hD).frE, Kd.refl, W.1 _ _ (same_new hD).kp hG⟩ (fun i H' _ ⟨_, _, _, _, _, _, _, _, _, _, _, _, q⟩ => q) ?_ ?_
  · rintro i x H' H'' hlt ⟨acc, Δ, yd, yr, hacc, rs, hl, hys, tn, gΔ, fr, kΔ, hG'⟩ ⟨s2, d, e, rd⟩
    have e' : ds[i] = d := by rw [List.getElem?_eq_getElem hlt] at e; exact Option.some.inj e
    rw [List.drop_eq_getElem_cons hlt, e'] at tn
    cases tn with
    | @cons _ y _ ys' _ Δ1 _ t tn =>
    obtain ⟨Δ2, Δ3, h1, h2, kd23, l1, q1, q2, q3⟩ := t.ex
    have g2 := gΔ.same s2
    intro s0 H0 C0 cl fp pins s u I r
    refine thn (h1 σ H'' x g2.toEnvR rd s0 H0 C0 cl fp pins s u I r) fun _ s' ⟨σ2, H2, I2, s3, we, r2⟩ => ⟨σ2, H2, I2, we, ?_⟩
    intro s0 H0 C0 cl fp pins s I
    refine thn (wtb_nil s0 H0 C0 cl fp pins s I) fun b s' ⟨H3, I3, s4, eb⟩ => ⟨H3, I3, ?_⟩
    subst eb
    rw [if_pos rfl]
    have sg : ∀ j, j ∉ own.map (·.2) → σ2[j]? = σ[j]? := fun j m => by rw [← wipe_get _ σ2 j m, we, wipe_get _ σ j m]
    have sl : σ2.length = σ.length := by rw [← wipe_len (own.map (·.2)) σ2, we, wipe_len]
    have g3 : EnvOk X.K ι C H3 σ2 Δ2 := ((g2.same s3).same s4).swap (vs := own.map (·.2)) (by rw [sl, gΔ.len, l1]) (fun j m => ⟨sg j m, q1 j m⟩) q2 (fun j m s e => (r2.same s4).ok j s e)
    intro s0 H0 C0 cl fp pins s I
    refine thn ((h2 s0 H0 C0 cl fp).2 C σ2 H3 g3 pins s I) fun u s' ⟨v, H4, I4, rv, g4, f4, r4⟩ => ⟨v, H4, I4, rv, ?_⟩
    have l2 : Δ3.length = Δ.length := by rw [← g4.len, sl, gΔ.len]
    obtain ⟨l3, q4, q5⟩ := q3 l2
    have h3 : ∀ j, j ∉ own.map (·.2) → Δ2[j]? = Δ[j]? ∧ Δ1[j]? = Δ3[j]? := fun j m => ⟨q1 j m, q4 j m⟩
    have h4 : ∀ j ∈ own.map (·.2), freeS Δ[j]? = true ∧ freeS Δ2[j]? = true ∧ Δ1[j]? = Δ[j]? := fun j m => ⟨(q2 j m).1, (q2 j m).2, q5 j m⟩
    have kp24 : Kp ι H' H4 := (s2.kp.trans (s3.kp.trans s4.kp)).trans f4.kp
    have s23 : Same H' H3 := (s2.trans s3).trans s4
    have own2 : ∀ b, OwnedBy σ2 Δ2 b → OwnedBy σ Δ b := fun b ⟨j, z1, z2⟩ => by
      by_cases m : j ∈ own.map (·.2)
      · exact absurd z1 (freeS_own (h4 j m).2.1)
      · exact ⟨j, (h3 j m).1 ▸ z1, sg j m ▸ z2⟩
    have noΔ : ¬ OwnedBy σ Δ D' := fun z => no1 (kΔ.owned z)
    have hD4 : H4 D' = some (.lst acc) := f4.keep _ _ (s23 _ _ hacc) (.inr fun z => noΔ (own2 _ z))
    have kd1 : Kd Δ Δ1 := t.kd
    have g5 : EnvOk X.K ι C H4 σ Δ1 := g4.swap (vs := own.map (·.2)) (by rw [gΔ.len, l3]) (fun j m => ⟨(sg j m).symm, (h3 j m).2⟩) (fun j m => ⟨?_, by rw [(h4 j m).2.2]; exact (h4 j m).1⟩) (fun j m s e => ?_)
    · refine ⟨acc, hD4, ?_, acc ++ [v], Δ1, yd ++ [y], ys', upd_same, ?_, ?_, ?_, tn, ?_, ?_, kΔ.trans kd1, ?_⟩
      · rw [rs.length]; omega
      · have k : Kp ι H4 (upd H4 D' (.lst (acc ++ [v]))) := fun b o e i => by
          rw [upd_ne (fun z => by subst z; rw [hD4] at e; cases e; exact i)]; exact e
        exact ((rs.mono kp24).mono k).snoc (Rep.mono k r4)
      · rw [List.length_append, hl]; rfl
      · rw [hys, List.append_assoc]; rfl
      · exact g5.updNew n0 (fun z => noΔ (kd1.owned z)) (fun o e => by rw [hD4] at e; cases e; exact fun z => z)
      · refine ⟨fun b o e im => ?_, fun b o e => ?_⟩
        · have e1 := fr.keep b o e im
          have e2 := f4.keep b o (s23 _ _ e1) (im.imp id fun q z => q (kΔ.owned (own2 _ z)))
          rw [upd_ne (fun z => by subst z; rw [hD] at e; cases e)]
          exact e2
        · obtain ⟨o1, e1⟩ := fr.tr b o e
          obtain ⟨o2, e2⟩ := f4.tr b o1 (s23 _ _ e1)
          by_cases z : b = D'
          · subst z; rw [hD] at e; cases e
          · exact ⟨o2, by rw [upd_ne z]; exact e2⟩
      · refine W.1 H' _ (fun b o e i => ?_) hG'
        rw [upd_ne (fun z => by subst z; rw [hacc] at e; cases e; exact i)]
        exact kp24 _ _ e i
    · have := kd23.len0 (freeS_own (h4 j m).2.1)
      cases q : Δ3[j]? with
      | none =>
        have hj : j < Δ.length := by
          have := (h4 j m).1
          by_cases z : j < Δ.length
          · exact z
          · rw [List.getElem?_eq_none (by omega)] at this; cases this
        rw [List.getElem?_eq_none_iff] at q
        omega
      | some s =>
        rw [q] at this
        cases s with
        | un => rfl
        | im d => rfl
        | ow m => exact absurd trivial this
        | mu m => exact absurd trivial this
    · rw [(h4 j m).2.2] at e
      have z := gΔ.ok j s e
      have fz := (h4 j m).1
      rw [e] at fz
      cases s with
      | un => trivial
      | im d => obtain ⟨v, a, b⟩ := z; exact ⟨v, a, b.mono kp24⟩
      | ow m => cases fz
      | mu m => cases fz
  · rintro H' ⟨acc, Δ, yd, yr, hacc, rs, hl, hys, tn, gΔ, fr, kΔ, _⟩
    rw [List.drop_length] at tn
    cases tn
    rw [List.append_nil] at hys
    subst hys
    exact ⟨gΔ, f1.trans kd fr, D', rfl, nD, acc, hacc, rs⟩
end
end DL
/-! DL, part o: terms that change what slots own. -/
namespace DL
open PySem PySem.Spec L2

inductive IE where
  | p (e : PE)
  | bor (i : Nat)
  | tmp (e : IE)
  | not (a : IE)
  | sl (a : IE) (lo hi : Option PE)
  | bin (op : Operator) (a b : IE) | cmp (op : CmpOp) (a b : IE)
  | tup (es : List IE) | lst (es : List IE)
  | ix (a b : IE)
  | bi (f : Bi) (es : List IE)
  | call (j : Nat) (es : List IE)
  | lc (vs : List Nat) (k : ItK) (it : List PE) (e : IE)
  | lcI (vs : List Nat) (k : ItK) (it : IE) (e : IE)
def evD (f : IE → List Slot → Option (R × List Slot)) (e : IE) (Γ : List Slot) : Option (D × List Slot) := (f e Γ).bind fun x => x.1.toD.map fun d => (d, x.2)
def seqD (f : IE → List Slot → Option (R × List Slot)) : List IE → List Slot → Option (List D × List Slot)
  | [], Γ => some ([], Γ)
  | e :: es, Γ => (evD f e Γ).bind fun x => (seqD f es x.2).map fun y => (x.1 :: y.1, y.2)
def argA (f : IE → List Slot → Option (R × List Slot)) (e : IE) (Γ : List Slot) : Option (A × List Slot) :=
  match e with
  | .bor i => match Γ[i]? with | some (.ow _) => some (.bor i, Γ) | some (.mu _) => some (.bor i, Γ) | _ => none
  | .tmp e => (f (.tmp e) Γ).bind fun x => match x.1 with
    | .ow m => some (.tmp m, x.2)
    | _ => none
  | e => (evD f e Γ).map fun x => (.im x.1, x.2)
def seqA (f : IE → List Slot → Option (R × List Slot)) : List IE → List Slot → Option (List A × List Slot)
  | [], Γ => some ([], Γ)
  | e :: es, Γ => (argA f e Γ).bind fun x => (seqA f es x.2).map fun y => (x.1 :: y.1, y.2)
def argz (Γ : List Slot) : List A → Option (List Slot)
  | [] => some []
  | .im d :: as => (argz Γ as).map (.im d :: ·)
  | .bor i :: as => match Γ[i]? with
    | some (.ow m) => (argz Γ as).map (.mu m :: ·)
    | some (.mu m) => (argz Γ as).map (.mu m :: ·)
    | _ => none
  | .tmp m :: as => (argz Γ as).map (.mu m :: ·)
def wb : List Slot → List A → List Slot → Option (List Slot)
  | Γ, [], _ => some Γ
  | Γ, .im _ :: as, _ :: fs => wb Γ as fs
  | Γ, .tmp _ :: as, _ :: fs => wb Γ as fs
  | Γ, .bor i :: as, .mu m :: fs => match Γ[i]? with
    | some (.ow _) => wb (Γ.set i (.ow m)) as fs
    | some (.mu _) => wb (Γ.set i (.mu m)) as fs
    | _ => none
  | _, _, _ => none
/-- the slots behind a block: its names as ahead -/
def backS (vs : List Nat) (Γ Γ' : List Slot) : List Slot := vs.foldl (fun Δ i => Δ.set i ((Γ[i]?).getD .un)) Γ'
def lcRunI (f : D → List Slot → Option (D × List Slot)) : List D → List Slot → Option (List D × List Slot)
  | [], Γ => some ([], Γ)
  | d :: ds, Γ => (f d Γ).bind fun x => (lcRunI f ds x.2).map fun y => (x.1 :: y.1, y.2)
def turnF (ev : IE → List Slot → Option (R × List Slot)) (vs : List Nat) (e : IE) (d : D) (Γ1 : List Slot) : Option (D × List Slot) :=
  if (vs.all fun i => freeS Γ1[i]?) = true then (bindL vs d Γ1).bind fun Γ2 => (evD ev e Γ2).map fun y => (y.1, backS vs Γ1 y.2) else none
noncomputable def evI (T : Tb) (np : Nat) : Nat → IE → List Slot → Option (R × List Slot)
  | 0, _, _ => none
  | n + 1, e, Γ =>
    let ev := evI T np n
    match e with
    | .p e => (evP T np e Γ).map fun r => (r, Γ)
    | .bor _ => none
    | .tmp e => ev e Γ
    | .not a => (ev a Γ).bind fun x => x.1.bl?.map fun b => (.im (.bl (!b)), x.2)
    | .sl a lo hi => (evD ev a Γ).bind fun x => (optI (fun e => evP T np e x.2) lo).bind fun l => (optI (fun e => evP T np e x.2) hi).bind fun u => (slR (.im x.1) l u).map fun r => (r, x.2)
    | .bin op a b => (evD ev a Γ).bind fun x => (evD ev b x.2).bind fun y => (binR op (.im x.1) (.im y.1)).map fun r => (r, y.2)
    | .cmp op a b => (evD ev a Γ).bind fun x => (evD ev b x.2).bind fun y => (cmpR op (.im x.1) (.im y.1)).map fun r => (.im (.bl r), y.2)
    | .tup es => (seqD ev es Γ).bind fun x => gd (x.1.length ≤ sizeLine) (.im (.tup x.1), x.2)
    | .lst es => (seqD ev es Γ).bind fun x => gd (x.1.length ≤ sizeLine) (.ow (.lst x.1), x.2)
    | .ix a b => (evD ev a Γ).bind fun x => (evD ev b x.2).bind fun y => (ixR (.im x.1) (.im y.1)).map fun r => (r, y.2)
    | .bi f es => (seqD ev es Γ).bind fun x => (biR f (x.1.map R.im)).map fun r => (r, x.2)
    | .call j es => (seqA ev es Γ).bind fun x => (argz x.2 x.1).bind fun ss => match T.call j ss with
        | some (.ret r fs) => if once x.1 [] = true then (wb x.2 x.1 fs).map fun Γ2 => (r, Γ2) else none
        | _ => none
    | .lc vs k it e => (mapO (fun e => evP T np e Γ) it).bind fun rs => (itK T k it rs).bind fun ds => if ds.length ≤ sizeLine then
        (lcRunI (turnF ev vs e) ds Γ).map fun y => (.ow (.lst y.1), y.2)
      else none
    | .lcI vs k it e => (evD ev it Γ).bind fun x => (itR k [.im x.1]).bind fun ds => if ds.length ≤ sizeLine then
        (lcRunI (turnF ev vs e) ds x.2).map fun y => (.ow (.lst y.1), y.2)
      else none
def chkE (G : GI) (N : List Str) (np : Nat) : Nat → Scope → IE → Expr → Bool
  | 0, _, _, _ => false
  | n + 1, sc, e, ex =>
    let f := chkE G N np n sc
    let fl := fun (es : List IE) (xs : List Expr) => decide (es.length = xs.length) && (es.zip xs).all fun q => notStar q.2 && f q.1 q.2
    match e, ex with
    | .p e, ex => chkP G N np sc e ex
    | .bor i, .Name x _ => decide (N[i]? = some x) && visB sc x
    | .tmp e, ex => f e ex
    | .not a, .UnaryOp .Not a' _ => f a a' && testB a'
    | .sl a lo hi, .Subscript a' (.Slice lo' hi' none _) _ => f a a' && chkO (chkP G N np sc) lo lo' && chkO (chkP G N np sc) hi hi'
    | .bin op a b, .BinOp a' op' b' _ => decide (op = op') && f a a' && f b b'
    | .cmp op a b, .Compare a' [op'] [b'] _ => decide (op = op') && f a a' && f b b' && !behindInMarks op b'
    | .tup es, .Tuple es' _ _ => fl es es'
    | .lst es, .List es' _ => fl es es'
    | .ix a b, .Subscript a' b' _ => f a a' && f b b' && notSlice b'
    | .bi b es, .Call (.Name x _) (e :: es') [] _ => b.plain && decide (b.nm = x) && glB sc x && fl es (e :: es')
    | .call j es, .Call (.Name x _) (e :: es') [] _ => decide ((lk G.dn j).map (·.1) = some x) && decide ((lk G.dn j).map (·.2) = some es.length) && glB sc x && fl es (e :: es')
    | .lc vs k it e, .ListComp elt [⟨tg, it', [], a⟩] scope _ => decide (a = 0) && notSet it' && chkI (chkP G N np sc) sc vs k it it' && chkT N scope sc vs tg (ownOf N vs) && blkC N sc scope (ownOf N vs) && chkE G N np n (relS scope sc) e elt
    | .lcI vs .seq it e, .ListComp elt [⟨tg, it', [], a⟩] scope _ => decide (a = 0) && notSet it' && f it it' && chkT N scope sc vs tg (ownOf N vs) && blkC N sc scope (ownOf N vs) && chkE G N np n (relS scope sc) e elt
    | .lcI vs .range1 it e, .ListComp elt [⟨tg, .Call (.Name x _) [i] [] _, [], a⟩] scope _ => decide (a = 0) && (decide (x = "range") && glB sc "range" && notStar i) && f it i && chkT N scope sc vs tg (ownOf N vs) && blkC N sc scope (ownOf N vs) && chkE G N np n (relS scope sc) e elt
    | _, _ => false
section
variable {X : Cx} {ι : Addr → Nat → Prop} {Γ Γ1 Γ2 Γ' : List Slot} {sc : Scope} {N : List Str} {G : GI} {T : Tb} {n np : Nat}
theorem argz_ok {Γ : List Slot} : ∀ {as : List A} {ss : List Slot}, argz Γ as = some ss → Argz Γ as ss
  | [], _, h => by cases h; exact .nil
  | .im d :: as, ss, h => by
    obtain ⟨x, e, q⟩ := omap_some (show (argz Γ as).map (.im d :: ·) = some ss from h)
    subst q; exact .im (argz_ok e)
  | .tmp m :: as, ss, h => by
    obtain ⟨x, e, q⟩ := omap_some (show (argz Γ as).map (.mu m :: ·) = some ss from h)
    subst q; exact .tmp (argz_ok e)
  | .bor i :: as, ss, h => by
    unfold argz at h
    split at h
    · obtain ⟨x, e, q⟩ := omap_some h
      subst q; exact .borO ‹_› (argz_ok e)
    · obtain ⟨x, e, q⟩ := omap_some h
      subst q; exact .borM ‹_› (argz_ok e)
    · cases h
theorem wb_ok : ∀ {as : List A} {fs Γ Γ' : List Slot}, wb Γ as fs = some Γ' → Wb Γ as fs Γ'
  | [], _, _, _, h => by unfold wb at h; cases h; exact .nil
  | .im _ :: as, [], _, _, h => by cases h
  | .im _ :: as, f :: fs, _, _, h => .im (wb_ok h)
  | .tmp _ :: as, [], _, _, h => by cases h
  | .tmp _ :: as, f :: fs, _, _, h => .tmp (wb_ok h)
  | .bor _ :: as, [], _, _, h => by cases h
  | .bor _ :: as, .un :: fs, _, _, h => by cases h
  | .bor _ :: as, .im _ :: fs, _, _, h => by cases h
  | .bor _ :: as, .ow _ :: fs, _, _, h => by cases h
  | .bor i :: as, .mu m :: fs, Γ, Γ', h => by
    unfold wb at h
    split at h
    · exact .borO ‹_› (wb_ok h)
    · exact .borM ‹_› (wb_ok h)
    · cases h
structure IOk (X : Cx) (ι : Addr → Nat → Prop) (Γ : List Slot) (ex : Expr) (r : R) (Γ' : List Slot) : Prop where
  ev : Ev X ι Γ ex r Γ'
  et : ∀ b, r = .im (.bl b) → testB ex = true → Evt X ι Γ ex b Γ'
def IHe (G : GI) (T : Tb) (N : List Str) (ι : Addr → Nat → Prop) (np n : Nat) : Prop :=
  ∀ (X : Cx) (sc : Scope) (e : IE) (ex : Expr) (Γ Γ' : List Slot) (r : R), Sx X sc N → GOk X ι G T → chkE G N np n sc e ex = true → evI T np n e Γ = some (r, Γ') → IOk X ι Γ ex r Γ'
theorem iok_plain {ex : Expr} {r : R} (h : Ev X ι Γ ex r Γ') (p : plainT ex = true) : IOk X ι Γ ex r Γ' := by
  refine ⟨h, fun b e t => ?_⟩
  subst e; exact evt_val h (plain_test p)
theorem iok_no {ex : Expr} {r : R} (h : Ev X ι Γ ex r Γ') (p : testB ex = false) : IOk X ι Γ ex r Γ' := by
  refine ⟨h, fun b e t => ?_⟩
  rw [p] at t; cases t
theorem evD_some {f : IE → List Slot → Option (R × List Slot)} {e : IE} {d : D} (h : evD f e Γ = some (d, Γ')) : ∃ r, f e Γ = some (r, Γ') ∧ r.toD = some d := by
  obtain ⟨⟨r, Γ1⟩, e1, e2⟩ := obind_some h
  obtain ⟨d', e3, e4⟩ := omap_some e2
  cases e4
  exact ⟨r, e1, e3⟩
abbrev flB (G : GI) (N : List Str) (np n : Nat) (sc : Scope) (es : List IE) (xs : List Expr) : Bool := decide (es.length = xs.length) && (es.zip xs).all fun q => notStar q.2 && chkE G N np n sc q.1 q.2
theorem flB_cons {e : IE} {es : List IE} {x : Expr} {xs : List Expr} (c : flB G N np n sc (e :: es) (x :: xs) = true) : notStar x = true ∧ chkE G N np n sc e x = true ∧ flB G N np n sc es xs = true := by
  obtain ⟨c1, c2⟩ := and_split c
  rw [List.zip_cons_cons, List.all_cons] at c2
  obtain ⟨c2, c3⟩ := and_split c2
  obtain ⟨c4, c5⟩ := and_split c2
  refine ⟨c4, c5, ?_⟩
  rw [flB, Bool.and_eq_true]
  refine ⟨decide_eq_true ?_, c3⟩
  have := dec c1
  simpa using this
theorem evds_ok (ih : IHe G T N ι np n) (S : Sx X sc N) (g : GOk X ι G T) : ∀ {es : List IE} {xs : List Expr} {ds : List D} {Γ Γ' : List Slot}, flB G N np n sc es xs = true → seqD (evI T np n) es Γ = some (ds, Γ') → Evds X ι Γ xs ds Γ' ∧ xs.all notStar = true ∧ ds.length = es.length
  | [], [], ds, _, _, _, h => by cases h; exact ⟨evds_nil, rfl, rfl⟩
  | [], _ :: _, _, _, _, c, _ => by cases c
  | _ :: _, [], _, _, _, c, _ => by cases c
  | e :: es, x :: xs, ds, Γ, Γ', c, h => by
    obtain ⟨⟨d, Γ1⟩, h1, h2⟩ := obind_some h
    obtain ⟨⟨ds', Γ2⟩, h3, h4⟩ := omap_some h2
    cases h4
    obtain ⟨c1, c2, c3⟩ := flB_cons c
    obtain ⟨r, e1, e2⟩ := evD_some h1
    obtain ⟨h5, h6, h7⟩ := evds_ok ih S g c3 h3
    refine ⟨evds_cons (ev_d (ih X sc e x Γ Γ1 r S g c2 e1).ev (toD_of e2)) h5 (star_cons c1), ?_, ?_⟩
    · rw [List.all_cons, c1, h6]; rfl
    · rw [List.length_cons, List.length_cons, h7]
theorem evas_ok (ih : IHe G T N ι np n) (S : Sx X sc N) (g : GOk X ι G T) : ∀ {es : List IE} {xs : List Expr} {as : List A} {Γ Γ' : List Slot}, flB G N np n sc es xs = true → seqA (evI T np n) es Γ = some (as, Γ') → Evas X ι Γ xs as Γ' ∧ xs.all notStar = true ∧ as.length = es.length
  | [], [], ds, _, _, _, h => by cases h; exact ⟨evas_nil, rfl, rfl⟩
  | [], _ :: _, _, _, _, c, _ => by cases c
  | _ :: _, [], _, _, _, c, _ => by cases c
  | e :: es, x :: xs, as, Γ, Γ', c, h => by
    obtain ⟨c1, c2, c3⟩ := flB_cons c
    obtain ⟨⟨a, Γ1⟩, h1, h2⟩ := obind_some h
    obtain ⟨⟨as', Γ2⟩, h3, h4⟩ := omap_some h2
    cases h4
    obtain ⟨h5, h6, h7⟩ := evas_ok ih S g c3 h3
    refine ⟨?_, by rw [List.all_cons, c1, h6]; rfl, by rw [List.length_cons, List.length_cons, h7]⟩
    have main : ∀ {d : D}, evD (evI T np n) e Γ = some (d, Γ1) → Evas X ι Γ (x :: xs) (.im d :: as') Γ2 := fun {d} q => by
      obtain ⟨r, e1, e2⟩ := evD_some q
      exact evas_im (ev_d (ih X sc e x Γ Γ1 r S g c2 e1).ev (toD_of e2)) h5 (star_cons c1)
    unfold argA at h1
    split at h1
    · rename_i i
      cases n with
      | zero => cases c2
      | succ n =>
        unfold chkE at c2
        cases x <;> first | (cases c2; done) | skip
        obtain ⟨c4, c5⟩ := and_split c2
        split at h1
        · rename_i q; cases h1; exact evas_bor S i (dec c4) c5 (by rw [q]; trivial) h5 (star_cons c1)
        · rename_i q; cases h1; exact evas_bor S i (dec c4) c5 (by rw [q]; trivial) h5 (star_cons c1)
        · cases h1
    · obtain ⟨⟨r, Γ3⟩, h8, h9⟩ := obind_some h1
      dsimp only at h9
      split at h9
      · cases h9
        exact evas_tmp (ih X sc _ x Γ _ _ S g c2 h8).ev h5 (star_cons c1)
      · cases h9
    · obtain ⟨⟨d, Γ3⟩, h8, h9⟩ := omap_some h1
      cases h9
      exact main h8
theorem ev_not {a : Expr} {p : Bool} {pos : Pos} (h : Ev X ι Γ a (.im (.bl p)) Γ') : Ev X ι Γ (.UnaryOp .Not a pos) (.im (.bl (!p))) Γ' := by
  refine ⟨h.1, fun C σ H g => ?_⟩
  refine WE.of (pe_not (pe_we X a)) ?_
  refine (h.2 C σ H g).mono fun v H1 ⟨g1, s1, r1⟩ => ?_
  cases r1
  exact ⟨p, rfl, g1, s1, .bl _⟩
theorem ev_slice {a : Expr} {lo hi : Option Expr} {l u : Option Int} {da : D} {rr : R} {p2 pos : Pos} (ha : Ev X ι Γ a (.im da) Γ1) (hl : Epo X ι Γ1 lo l) (hu : Epo X ι Γ1 hi u) (ho : SlOk X ι (.im da) l u rr) : Ev X ι Γ (.Subscript a (.Slice lo hi none p2) pos) rr Γ1 := by
  refine ⟨ha.1, fun C σ H g => ?_⟩
  obtain ⟨q, hq, z⟩ := ho
  obtain ⟨tl, pl, hl⟩ := hl.po
  obtain ⟨tu, pu, hu⟩ := hu.po
  refine WE.of (pe_slice hq (pe_we X a) pl pu) ?_
  refine (ha.2 C σ H g).mono fun x H1 ⟨g1, s1, r1⟩ => ?_
  refine hl σ H1 _ g1.toEnvR fun H2 s2 => ?_
  refine hu σ H2 _ (g1.toEnvR.same s2) fun H3 s3 => ?_
  have s23 := s2.trans s3
  exact z H3 x _ (RV.same (r := .im da) r1 s23) fun v H4 s4 r4 => ⟨g1.same (s23.trans s4), s1.trans ha.1 (s23.trans s4).frE, r4.olderE (s1.trans ha.1 s23.frE)⟩
theorem ev_bi {b : Bi} {x : Expr} {xs : List Expr} {p pos : Pos} {ds : List D} {rr : R} (S : Sx X sc N) (g : GOk X ι G T) (c1 : b.plain = true) (c3 : glB sc b.nm = true) (z1 : Evds X ι Γ (x :: xs) ds Γ') (ok : CallOk X ι b.val (ds.map R.im) rr) (z2 : notStar x = true) (z4 : xs.all notStar = true) :
    Ev X ι Γ (.Call (.Name b.nm p) (x :: xs) [] pos) rr Γ' := by
  have nm : X.mg b.nm = none := g.bn _ (by cases b <;> decide +kernel)
  cases b with
  | srtset => cases c1
  | len => exact ev_callB S c3 nm (by decide +kernel) z1 ok (star_cons z2) (stars_any z4)
  | abs => exact ev_callB S c3 nm (by decide +kernel) z1 ok (star_cons z2) (stars_any z4)
  | max2 => exact ev_callB S c3 nm (by decide +kernel) z1 ok (star_cons z2) (stars_any z4)
  | min2 => exact ev_callB S c3 nm (by decide +kernel) z1 ok (star_cons z2) (stars_any z4)
  | sum => exact ev_callB S c3 nm (by decide +kernel) z1 ok (star_cons z2) (stars_any z4)
  | all => exact ev_callB S c3 nm (by decide +kernel) z1 ok (star_cons z2) (stars_any z4)
  | any => exact ev_callB S c3 nm (by decide +kernel) z1 ok (star_cons z2) (stars_any z4)
  | divmod => exact ev_callB S c3 nm (by decide +kernel) z1 ok (star_cons z2) (stars_any z4)
  | min => exact ev_callB S c3 nm (by decide +kernel) z1 ok (star_cons z2) (stars_any z4)
  | int => exact ev_callTy S c3 nm (by decide +kernel) z1 ok (star_cons z2) (stars_any z4)
  | str => exact ev_callTy S c3 nm (by decide +kernel) z1 ok (star_cons z2) (stars_any z4)
  | tuple => exact ev_callTy S c3 nm (by decide +kernel) z1 ok (star_cons z2) (stars_any z4)
  | list => exact ev_callTy S c3 nm (by decide +kernel) z1 ok (star_cons z2) (stars_any z4)
theorem backS_len : ∀ (vs : List Nat) (Γ Γ' : List Slot), (backS vs Γ Γ').length = Γ'.length
  | [], _, _ => rfl
  | i :: vs, Γ, Γ' => by
    show (backS vs Γ (Γ'.set i _)).length = _
    rw [backS_len vs, List.length_set]
theorem backS_get : ∀ (vs : List Nat) (Γ Γ' : List Slot) (j : Nat), Γ'.length = Γ.length → ((j ∉ vs → (backS vs Γ Γ')[j]? = Γ'[j]?) ∧ (j ∈ vs ∨ Γ'[j]? = Γ[j]? → (backS vs Γ Γ')[j]? = Γ[j]?))
  | [], Γ, Γ', j, h => ⟨fun _ => rfl, fun z => z.elim (fun z => absurd z List.not_mem_nil) id⟩
  | i :: vs, Γ, Γ', j, h => by
    obtain ⟨h1, h2⟩ := backS_get vs Γ (Γ'.set i ((Γ[i]?).getD .un)) j (by rw [List.length_set]; exact h)
    refine ⟨fun z => ?_, fun z => ?_⟩
    · show (backS vs Γ (Γ'.set i _))[j]? = _
      rw [h1 fun m => z (List.mem_cons_of_mem _ m), List.getElem?_set_ne (fun e => z (by rw [e]; exact List.mem_cons_self))]
    · show (backS vs Γ (Γ'.set i _))[j]? = _
      by_cases e : i = j
      · subst e
        refine h2 (.inr ?_)
        by_cases hl : i < Γ'.length
        · rw [List.getElem?_set_self hl, List.getElem?_eq_getElem (by omega)]; rfl
        · rw [List.getElem?_eq_none (by rw [List.length_set]; omega), List.getElem?_eq_none (by omega)]
      · refine h2 (z.imp (fun m => ?_) fun q => by rw [List.getElem?_set_ne e]; exact q)
        rcases List.mem_cons.mp m with q | q
        · exact absurd q.symm e
        · exact q
theorem backS_own : ∀ (vs : List Nat) (Γ Γ' : List Slot) (j : Nat), isOwn (backS vs Γ Γ')[j]? → (j ∉ vs ∧ isOwn Γ'[j]?) ∨ isOwn Γ[j]?
  | [], _, _, _, h => .inl ⟨List.not_mem_nil, h⟩
  | i :: vs, Γ, Γ', j, h => by
    rcases backS_own vs Γ (Γ'.set i ((Γ[i]?).getD .un)) j h with ⟨h1, h2⟩ | h1
    · by_cases e : i = j
      · subst e
        right
        by_cases hl : i < Γ'.length
        · rw [List.getElem?_set_self hl] at h2
          cases q : Γ[i]? with
          | none => rw [q] at h2; exact h2.elim
          | some s => rw [q] at h2; exact h2
        · rw [List.getElem?_eq_none (by rw [List.length_set]; omega)] at h2; exact h2.elim
      · left
        rw [List.getElem?_set_ne e] at h2
        exact ⟨fun m => (List.mem_cons.mp m).elim (fun q => e q.symm) h1, h2⟩
    · exact .inr h1
theorem bindL_get {vs : List Nat} {d : D} (h : bindL vs d Γ = some Γ') : Γ'.length = Γ.length ∧ (∀ j, j ∉ vs → Γ'[j]? = Γ[j]?) ∧ (∀ j ∈ vs, freeS Γ'[j]? = true) := by
  match vs, h with
  | [i], h =>
    obtain ⟨h1, h2⟩ := ite_some (show (if _ then some _ else none) = some Γ' from h)
    cases h2
    refine ⟨by rw [List.length_set], fun j m => ?_, fun j m => ?_⟩
    · rw [List.getElem?_set_ne (fun e => m (by rw [e]; exact List.mem_cons_self))]
    · cases List.mem_singleton.mp m
      rw [List.getElem?_set_self h1]; rfl
  | [i, k], h =>
    cases d with
    | tup l =>
      match l, h with
      | [d1, d2], h =>
        obtain ⟨⟨h1, h2, h3⟩, h4⟩ := ite_some (show (if _ then some _ else none) = some Γ' from h)
        cases h4
        refine ⟨by rw [List.length_set, List.length_set], fun j m => ?_, fun j m => ?_⟩
        · rw [List.getElem?_set_ne (fun e => m (by rw [e]; simp)), List.getElem?_set_ne (fun e => m (by rw [e]; simp))]
        · rw [get_set (by rw [List.length_set]; exact h2), get_set h1]
          split
          · rfl
          · split
            · rfl
            · rename_i n1 n2
              rcases List.mem_cons.mp m with q | q
              · exact absurd q.symm n2
              · exact absurd (List.mem_singleton.mp q).symm n1
      | [], h => cases h
      | [_], h => cases h
      | _ :: _ :: _ :: _, h => cases h
    | _ => cases h
  | [], h => cases h
  | _ :: _ :: _ :: _, h => cases h
theorem turns_ok (ih : IHe G T N ι np n) (S : Sx X sc N) (g : GOk X ι G T) {scope : Scope} {vs : List Nat} {e : IE} {tg elt : Expr} (c2 : chkT N scope sc vs tg (ownOf N vs) = true) (c4 : chkE G N np n (relS scope sc) e elt = true) :
    ∀ {ds ys : List D} {Γ Γ' : List Slot}, lcRunI (turnF (evI T np n) vs e) ds Γ = some (ys, Γ') → Turns X ι scope tg elt ((ownOf N vs).map (·.2)) ds Γ ys Γ' := by
  have ov : (ownOf N vs).map (·.2) = vs := by unfold ownOf; rw [List.map_map]; exact List.map_id _
  intro ds
  induction ds with
  | nil => intro ys Γ Γ' h; cases h; exact .nil
  | cons d ds ihd =>
    intro ys Γ Γ' h
    obtain ⟨⟨y, Γ1⟩, h1, h2⟩ := obind_some h
    obtain ⟨⟨ys', Γ2⟩, h3, h4⟩ := omap_some h2
    cases h4
    refine .cons ?_ (ihd h3)
    obtain ⟨fr, h5⟩ := ite_some h1
    obtain ⟨Γ3, h6, h7⟩ := obind_some h5
    obtain ⟨⟨y', Γ4⟩, h8, h9⟩ := omap_some h7
    cases h9
    obtain ⟨r, e1, e2⟩ := evD_some h8
    obtain ⟨b1, b2, b3⟩ := bindL_get h6
    have kd34 : Kd Γ3 Γ4 := (ih (BX X scope X.s_0 X.H_0 default [] []) (relS scope sc) e elt Γ3 Γ4 r S.blk g.blk c4 e1).ev.1
    have fre : ∀ j ∈ vs, freeS Γ[j]? = true := fun j m => List.all_eq_true.mp fr j m
    rw [ov]
    refine ⟨⟨Γ3, Γ4, ov ▸ ebt_ok S c2 h6, fun s0 H0 C cl fp => ev_d (ih _ _ _ _ _ _ _ S.blk g.blk c4 e1).ev (toD_of e2), kd34, b1, b2, fun j m => ⟨fre j m, b3 j m⟩, fun hl => ⟨by rw [backS_len, hl], fun j m => ?_, fun j m => ?_⟩⟩, fun j z => ?_⟩
    · exact (backS_get vs Γ Γ4 j hl).1 m
    · exact (backS_get vs Γ Γ4 j hl).2 (.inl m)
    · rcases backS_own vs Γ Γ4 j z with ⟨m, q⟩ | q
      · have := kd34 j q
        rw [b2 j m] at this
        exact this
      · exact q
theorem evI_ok : ∀ n, IHe G T N ι np n
  | 0 => fun X sc e ex Γ Γ' r S g c h => by cases h
  | n + 1 => fun X sc e ex Γ Γ' r S g c h => by
    have ih := evI_ok n
    unfold chkE at c
    unfold evI at h
    dsimp only at c h
    split at c
    -- p
    · obtain ⟨r', e1, e2⟩ := omap_some h
      cases e2
      have z := evP_ok np X sc _ _ Γ _ S g c e1
      exact ⟨ev_p z.ep, fun b e t => evt_p (z.et b e t)⟩
    -- bor
    · cases h
    -- tmp
    · exact ih _ _ _ _ _ _ _ S g c h
    -- not
    · obtain ⟨c1, c2⟩ := and_split c
      obtain ⟨⟨r1, Γ1⟩, h1, h⟩ := obind_some h
      obtain ⟨b, h2, h3⟩ := omap_some h
      cases h3
      have := bl_of h2
      dsimp only at this
      subst this
      have z := ih _ _ _ _ _ _ _ S g c1 h1
      exact ⟨ev_not z.ev, fun b e _ => by cases e; exact evt_not (z.et _ rfl c2)⟩
    -- sl
    · obtain ⟨c, c3⟩ := and_split c
      obtain ⟨c1, c2⟩ := and_split c
      obtain ⟨⟨da, Γ1⟩, h1, h⟩ := obind_some h
      obtain ⟨l, h2, h⟩ := obind_some h
      obtain ⟨u, h3, h⟩ := obind_some h
      obtain ⟨rr, h4, h5⟩ := omap_some h
      cases h5
      obtain ⟨ra, e1, e2⟩ := evD_some h1
      exact iok_plain (ev_slice (ev_d (ih _ _ _ _ _ _ _ S g c1 e1).ev (toD_of e2)) (epo_ok (evP_ok np) S g c2 h2) (epo_ok (evP_ok np) S g c3 h3) (slR_ok h4)) rfl
    -- bin
    · obtain ⟨c, c3⟩ := and_split c
      obtain ⟨c1, c2⟩ := and_split c
      obtain ⟨⟨da, Γ1⟩, h1, h⟩ := obind_some h
      obtain ⟨⟨db, Γ2⟩, h2, h⟩ := obind_some h
      obtain ⟨rr, h3, h4⟩ := omap_some h
      cases h4
      obtain ⟨ra, e1, e2⟩ := evD_some h1
      obtain ⟨rb, e3, e4⟩ := evD_some h2
      have := dec c1
      subst this
      exact iok_no (ev_bin (ev_d (ih _ _ _ _ _ _ _ S g c2 e1).ev (toD_of e2)) (ev_d (ih _ _ _ _ _ _ _ S g c3 e3).ev (toD_of e4)) (binR_ok h3)) rfl
    -- cmp
    · obtain ⟨c, c4⟩ := and_split c
      obtain ⟨c, c3⟩ := and_split c
      obtain ⟨c1, c2⟩ := and_split c
      obtain ⟨⟨da, Γ1⟩, h1, h⟩ := obind_some h
      obtain ⟨⟨db, Γ2⟩, h2, h⟩ := obind_some h
      obtain ⟨rr, h3, h4⟩ := omap_some h
      cases h4
      obtain ⟨ra, e1, e2⟩ := evD_some h1
      obtain ⟨rb, e3, e4⟩ := evD_some h2
      have := dec c1
      subst this
      have z1 := ev_d (ih _ _ _ _ _ _ _ S g c2 e1).ev (toD_of e2)
      have z2 := ev_d (ih _ _ _ _ _ _ _ S g c3 e3).ev (toD_of e4)
      have o := cmpR_ok (X := X) (ι := ι) g.un h3
      exact ⟨ev_cmp z1 z2 o (notb c4), fun b e _ => by cases e; exact evt_cmp z1 z2 o (notb c4)⟩
    -- tup, lst
    · obtain ⟨⟨ds, Γ1⟩, h1, h⟩ := obind_some h
      obtain ⟨hz, h⟩ := gd_some h
      cases h
      exact iok_no (ev_tup (evds_ok ih S g c h1).1 hz) rfl
    · obtain ⟨⟨ds, Γ1⟩, h1, h⟩ := obind_some h
      obtain ⟨hz, h⟩ := gd_some h
      cases h
      exact iok_no (ev_lst (evds_ok ih S g c h1).1 hz) rfl
    -- ix
    · obtain ⟨c, c3⟩ := and_split c
      obtain ⟨c1, c2⟩ := and_split c
      obtain ⟨⟨da, Γ1⟩, h1, h⟩ := obind_some h
      obtain ⟨⟨db, Γ2⟩, h2, h⟩ := obind_some h
      obtain ⟨rr, h3, h4⟩ := omap_some h
      cases h4
      obtain ⟨ra, e1, e2⟩ := evD_some h1
      obtain ⟨rb, e3, e4⟩ := evD_some h2
      exact iok_plain (ev_ix (ev_d (ih _ _ _ _ _ _ _ S g c1 e1).ev (toD_of e2)) (ev_d (ih _ _ _ _ _ _ _ S g c2 e3).ev (toD_of e4)) (ixR_ok h3) (plain_ix c3)) rfl
    -- bi
    · obtain ⟨c, c4⟩ := and_split c
      obtain ⟨c, c3⟩ := and_split c
      obtain ⟨c1, c2⟩ := and_split c
      obtain ⟨⟨ds, Γ1⟩, h1, h⟩ := obind_some h
      obtain ⟨rr, h3, h4⟩ := omap_some h
      cases h4
      obtain ⟨z1, z2, z3⟩ := evds_ok ih S g c4 h1
      rw [List.all_cons] at z2
      obtain ⟨z2, z4⟩ := and_split z2
      have := dec c2
      subst this
      exact iok_plain (ev_bi S g c1 c3 z1 (biR_ok S.calm g.un h3) z2 z4) rfl
    -- call
    · obtain ⟨c, c4⟩ := and_split c
      obtain ⟨c, c3⟩ := and_split c
      obtain ⟨c1, c2⟩ := and_split c
      obtain ⟨⟨x', n'⟩, d1, d2⟩ := omap_some (dec c1)
      obtain ⟨⟨x'', n''⟩, d3, d4⟩ := omap_some (dec c2)
      rw [d1] at d3
      cases d3
      cases d2
      cases d4
      obtain ⟨k, rm, da⟩ := g.call _ _ _ d1
      obtain ⟨⟨as, Γ1⟩, h1, h⟩ := obind_some h
      obtain ⟨ss, h2, h⟩ := obind_some h
      obtain ⟨z1, z2, z3⟩ := evas_ok ih S g c4 h1
      rw [List.all_cons] at z2
      obtain ⟨z2, z4⟩ := and_split z2
      split at h
      · rename_i e1
        obtain ⟨q, h3⟩ := ite_some h
        obtain ⟨Γ2, h5, h6⟩ := omap_some h3
        cases h6
        exact iok_plain (ev_call S da rm c3 z1 (argz_ok h2) e1 (wb_ok h5) z3 q (star_cons z2) (stars_any z4)) rfl
      · cases h
    -- lc
    · obtain ⟨c, c6⟩ := and_split c
      obtain ⟨c, c5⟩ := and_split c
      obtain ⟨c, c4⟩ := and_split c
      obtain ⟨c, c3⟩ := and_split c
      obtain ⟨c1, c2⟩ := and_split c
      have := dec c1
      subst this
      obtain ⟨rs, h1, h⟩ := obind_some h
      obtain ⟨ds, h2, h⟩ := obind_some h
      obtain ⟨hz, h⟩ := ite_some h
      obtain ⟨⟨ys, Γ2⟩, h3, h4⟩ := omap_some h
      cases h4
      exact iok_no (ev_lc S (eiv_p (ei_ok (evP_ok np) S g c3 h1 h2 (chkT_two c4))) (turns_ok ih S g c4 c6 h3) hz c5 (folded_set c2)) rfl
    · obtain ⟨c, c6⟩ := and_split c
      obtain ⟨c, c5⟩ := and_split c
      obtain ⟨c, c4⟩ := and_split c
      obtain ⟨c, c3⟩ := and_split c
      obtain ⟨c1, c2⟩ := and_split c
      have := dec c1
      subst this
      obtain ⟨⟨d, Γ1⟩, h1, h⟩ := obind_some h
      obtain ⟨ds, h2, h⟩ := obind_some h
      obtain ⟨hz, h⟩ := ite_some h
      obtain ⟨⟨ys, Γ2⟩, h3, h4⟩ := omap_some h
      cases h4
      obtain ⟨r, e1, e2⟩ := evD_some h1
      have z := ev_d (ih _ _ _ _ _ _ _ S g c3 e1).ev (toD_of e2)
      have w : ∀ (tg : Expr), Eiv X ι Γ tg _ ds Γ1 := fun tg => by
        unfold itR at h2
        split at h2 <;> rename_i q1 q2 <;> first | (cases q1; done) | (cases h2; done) | skip
        all_goals cases q2
        · cases h2; exact eiv_list z
        · cases h2; exact eiv_tup z
        · cases h2; exact eiv_str z
      exact iok_no (ev_lc S (w _) (turns_ok ih S g c4 c6 h3) hz c5 (folded_set c2)) rfl
    · obtain ⟨c, c6⟩ := and_split c
      obtain ⟨c, c5⟩ := and_split c
      obtain ⟨c, c4⟩ := and_split c
      obtain ⟨c, c3⟩ := and_split c
      obtain ⟨c1, c2⟩ := and_split c
      obtain ⟨c2, c9⟩ := and_split c2
      obtain ⟨c7, c8⟩ := and_split c2
      have := dec c1
      subst this
      have := dec c7
      subst this
      obtain ⟨⟨d, Γ1⟩, h1, h⟩ := obind_some h
      obtain ⟨ds, h2, h⟩ := obind_some h
      obtain ⟨hz, h⟩ := ite_some h
      obtain ⟨⟨ys, Γ2⟩, h3, h4⟩ := omap_some h
      cases h4
      obtain ⟨r, e1, e2⟩ := evD_some h1
      have z := ev_d (ih _ _ _ _ _ _ _ S g c3 e1).ev (toD_of e2)
      unfold itR at h2
      split at h2 <;> rename_i q1 q2 <;> first | (cases q1; done) | (cases h2; done) | skip
      cases q2
      obtain ⟨⟨b1, b2⟩, e⟩ := gd_some h2
      subst e
      have w := fun tg p pos => eiv_range1 (tg := tg) (p := p) (pos := pos) S (g.bn _ (by decide +kernel)) c8 z b1 b2 (star_cons c9)
      simp only [Int.zero_add] at w
      exact iok_no (ev_lc S (w _ _ _) (turns_ok ih S g c4 c6 h3) hz c5 (folded_set rfl)) rfl
    · cases c
end
end DL
/-! DL, part p: statements as terms. -/
namespace DL
open PySem PySem.Spec L2

inductive Tg where
  | name (i : Nat) | tup (ts : List Tg) | item (i : Nat) (k : PE)
inductive IS where
  | pass | brk | cnt | bad
  | fset (i c : Nat) (f : Str) (e : IE)
  | set (i : Nat) (e : IE)
  | setO (i : Nat) (e : IE)
  | asg (t : Tg) (e : IE)
  | par (xs : List Nat) (es : List IE)
  | aug (i : Nat) (op : Operator) (e : IE)
  | ret (e : IE) | retO (i : Nat) | ret0
  | iff (c : IE) (a b : List IS)
  | loop (t : Tg) (k : ItK) (it : List PE) (body : List IS)
  | loopI (t : Tg) (k : ItK) (it : IE) (body : List IS)
  | ex (e : IE)
  | app (i : Nat) (e : IE) | ext (i : Nat) (e : IE)
  | frz (i : Nat)
inductive SR where
  | nx (Γ : List Slot) | rt (r : R) (Γ : List Slot) | bk (Γ : List Slot) | ct (Γ : List Slot)
def SR.then (s : SR) (f : List Slot → Option SR) : Option SR :=
  match s with
  | .nx Γ => f Γ
  | s => some s
def SR.seq (o : Option SR) (f : List Slot → Option SR) : Option SR := o.bind fun s => s.then f
@[simp] theorem seq_nx {Γ : List Slot} {f : List Slot → Option SR} : SR.seq (some (.nx Γ)) f = f Γ := rfl
@[simp] theorem seq_rt {r : R} {Γ : List Slot} {f : List Slot → Option SR} : SR.seq (some (.rt r Γ)) f = some (.rt r Γ) := rfl
def ownL (Γ : List Slot) (i : Nat) : Option (List D × (List D → List Slot)) :=
  match Γ[i]? with
  | some (.ow (.lst ds)) => some (ds, fun ds' => Γ.set i (.ow (.lst ds')))
  | some (.mu (.lst ds)) => some (ds, fun ds' => Γ.set i (.mu (.lst ds')))
  | _ => none
def setS (Γ : List Slot) (i : Nat) (s : Slot) : Option (List Slot) := if stoB Γ i = true then some (Γ.set i s) else none
/-- a target's targets, one by one -/
def stgs (f : Tg → D → List Slot → Option (List Slot)) : List Tg → List D → List Slot → Option (List Slot)
  | [], [], Γ => some Γ
  | t :: ts, d :: ds, Γ => (f t d Γ).bind fun Γ1 => stgs f ts ds Γ1
  | _, _, _ => none
noncomputable def stg (T : Tb) (np : Nat) : Nat → Tg → D → List Slot → Option (List Slot)
  | 0, _, _, _ => none
  | n + 1, t, d, Γ => match t with
    | .name i => setS Γ i (.im d)
    | .tup ts => match d with
      | .tup ds => stgs (stg T np n) ts ds Γ
      | _ => none
    | .item i k => ((evP T np k Γ).bind R.int?).bind fun z => (ownL Γ i).bind fun o => (ixN o.1.length z).map fun j => o.2 (o.1.set j d)
def execs (f : IS → List Slot → Option SR) : List IS → List Slot → Option SR
  | [], Γ => some (.nx Γ)
  | .frz i :: r, Γ => match Γ[i]? with
    | some (.ow (.lst ds)) => execs f r (Γ.set i (.im (.lst ds)))
    | some (.ow (.dic ds)) => execs f r (Γ.set i (.im (.dic ds)))
    | _ => none
  | s :: r, Γ => SR.seq (f s Γ) fun Γ' => execs f r Γ'
/-- the turns of a loop -/
def loopR (f : D → List Slot → Option SR) : List D → List Slot → Option SR
  | [], Γ => some (.nx Γ)
  | d :: ds, Γ => (f d Γ).bind fun s => match s with
    | .nx Γ' => loopR f ds Γ'
    | .ct Γ' => loopR f ds Γ'
    | .bk Γ' => some (.nx Γ')
    | .rt r Γ' => some (.rt r Γ')
noncomputable def opI : Operator → Option (Int → Int → Int)
  | .Add => some (· + ·)
  | .Sub => some (· - ·)
  | _ => none
def setL (Γ : List Slot) : List Nat → List D → Option (List Slot)
  | [], [] => some Γ
  | i :: is, d :: ds => (setS Γ i (.im d)).bind fun Γ1 => setL Γ1 is ds
  | _, _ => none
noncomputable def exS (T : Tb) (np : Nat) : Nat → IS → List Slot → Option SR
  | 0, _, _ => none
  | n + 1, s, Γ => match s with
    | .pass => some (.nx Γ)
    | .brk => some (.bk Γ)
    | .cnt => some (.ct Γ)
    | .bad => none
    | .fset i c f e => (evD (evI T np np) e Γ).bind fun x => match x.2[i]? with
      | some (.mu (.ins C fl)) => if C = T.cls c ∧ fl.length ≠ T.full c ∧ fl.length < 1000 ∧ fl.lookup f = none then some (.nx (x.2.set i (.mu (.ins C (fl ++ [(f, x.1)]))))) else none
      | _ => none
    | .set i e => (evD (evI T np np) e Γ).bind fun x => (setS x.2 i (.im x.1)).map .nx
    | .setO i e => (evI T np np e Γ).bind fun x => match x.1 with
      | .ow m => (setS x.2 i (.ow m)).map .nx
      | _ => none
    | .asg t e => (evD (evI T np np) e Γ).bind fun x => (stg T np np t x.1 x.2).map .nx
    | .par xs es => (seqD (evI T np np) es Γ).bind fun x => (setL x.2 xs x.1).map .nx
    | .aug i op e => (opI op).bind fun f => match Γ[i]? with
      | some (.im (.int k)) => (evI T np np e Γ).bind fun x => (x.1.int?).bind fun l => (setS x.2 i (.im (.int (f k l)))).map .nx
      | _ => none
    | .ret e => (evI T np np e Γ).map fun x => .rt x.1 x.2
    | .retO i => match Γ[i]? with
      | some (.ow m) => some (.rt (.ow m) Γ)
      | _ => none
    | .ret0 => some (.rt (.im .non) Γ)
    | .iff c a b => (evI T np np c Γ).bind fun x => x.1.bl?.bind fun q => if q then execs (exS T np n) a x.2 else execs (exS T np n) b x.2
    | .loop t k it body => (mapO (fun e => evP T np e Γ) it).bind fun rs => (itK T k it rs).bind fun ds =>
        loopR (fun d Γ1 => (stg T np np t d Γ1).bind fun Γ2 => execs (exS T np n) body Γ2) ds Γ
    | .loopI t k it body => (evD (evI T np np) it Γ).bind fun x => (itR k [.im x.1]).bind fun ds =>
        loopR (fun d Γ1 => (stg T np np t d Γ1).bind fun Γ2 => execs (exS T np n) body Γ2) ds x.2
    | .ex e => (evI T np np e Γ).map fun x => .nx x.2
    | .app i e => (evD (evI T np np) e Γ).bind fun x => (ownL Γ i).bind fun _ => (ownL x.2 i).bind fun o => gd (o.1.length < sizeLine) (.nx (o.2 (o.1 ++ [x.1])))
    | .ext i e => (evD (evI T np np) e Γ).bind fun x => match x.1 with
      | .lst es => (ownL Γ i).bind fun _ => (ownL x.2 i).bind fun o => gd (o.1.length + es.length ≤ sizeLine) (.nx (o.2 (o.1 ++ es)))
      | _ => none
    | .frz _ => none
/-- a def: its slots, its body -/
structure FD where
  N : List Str
  ar : Nat
  body : List IS
noncomputable def runD (T : Tb) (np : Nat) (F : FD) (ss : List Slot) : Option Out :=
  if ss.length = F.ar then (execs (exS T np np) F.body (Γ0 ss F.N.length)).bind fun s => match s with
    | .nx Γ => some (.ret (.im .non) (Γ.take F.ar))
    | .rt r Γ => some (.ret r (Γ.take F.ar))
    | _ => none
  else none
end DL
/-! DL, part q: statements' terms stand for statements. -/
namespace DL
open PySem PySem.Spec L2

def isComp : Expr → Bool | .ListComp _ _ _ _ => true | .SetComp _ _ _ _ => true | .DictComp _ _ _ _ _ => true | _ => false
def isName : Expr → Bool | .Name _ _ => true | _ => false
def isTup : Expr → Bool | .Tuple _ _ _ => true | _ => false
def isSub : Expr → Bool | .Subscript _ _ _ => true | _ => false
theorem swaps_none {e : Expr} {t : Option Expr} {l : Nat} {env : Env} (h : isComp e = false) : swapsWith e t l env = pure false := by
  cases e <;> first | rfl | (cases h; done)
theorem swaps_cell {e : Expr} {x : Str} {p : Pos} {l : Nat} {env : Env} (h : (List.lookup x env.scope.names == some NameKind.local) = false) : swapsWith e (some (.Name x p)) l env = pure false := by
  cases e <;> first | rfl | skip
  all_goals
    show pure (_ && (List.lookup x env.scope.names == some NameKind.local) && _ && _) = pure false
    rw [h, Bool.and_false, Bool.false_and, Bool.false_and]
theorem swaps_other {e t : Expr} {l : Nat} {env : Env} (h : isName t = false) : swapsWith e (some t) l env = pure false := by
  cases t <;> first | (cases h; done) | (cases e <;> rfl)
/-- the stores of several targets go one by one -/
def notLoc (sc : Scope) : Expr → Bool
  | .Name x _ => !(sc.names.lookup x == some NameKind.local)
  | _ => true
def swN (sc : Scope) (tg e : Expr) : Bool := match tg, e with
  | .Tuple ts _ _, .Tuple vs _ _ => ts.any (notLoc sc)
  | .Tuple _ _ _, _ => true
  | .Subscript _ _ _, _ => true
  | _, _ => false
theorem filterMap_lt {α β : Type} {f : α → Option β} : ∀ {l : List α}, (∃ a ∈ l, f a = none) → (l.filterMap f).length < l.length
  | [], h => by obtain ⟨a, m, _⟩ := h; cases m
  | a :: l, h => by
    rw [List.filterMap_cons]
    have le : (l.filterMap f).length ≤ l.length := List.length_filterMap_le f l
    cases e : f a with
    | none => show (l.filterMap f).length < l.length + 1; omega
    | some b =>
      show (l.filterMap f).length + 1 < l.length + 1
      have : (l.filterMap f).length < l.length := filterMap_lt (by
        obtain ⟨x, m, q⟩ := h
        rcases List.mem_cons.mp m with z | z
        · subst z; rw [e] at q; cases q
        · exact ⟨x, z, q⟩)
      omega
theorem swapped_none {tg e : Expr} {env : Env} (h : swN env.scope tg e = true) : swappedStores [tg] e env = pure none := by
  unfold swN at h
  split at h
  · rename_i ts _ _ vs _ _
    unfold swappedStores
    dsimp only
    split
    · rfl
    · split
      · rfl
      · split
        · rfl
        · rename_i hh
          exfalso
          apply hh
          rw [Bool.or_eq_true]
          left
          rw [bne_iff_ne]
          intro z
          obtain ⟨t, m, q⟩ := List.any_eq_true.mp h
          refine absurd z (Nat.ne_of_lt (filterMap_lt ⟨t, m, ?_⟩))
          cases t with
          | Name x px =>
            have q2 : (List.lookup x env.scope.names == some NameKind.local) = false := by
              have q' : (!(List.lookup x env.scope.names == some NameKind.local)) = true := q
              revert q'
              cases (List.lookup x env.scope.names == some NameKind.local) <;> simp
            show (if ((List.lookup x env.scope.names == some NameKind.local) && _) = true then some _ else none) = none
            rw [q2]
            rfl
          | _ => rfl
  · rename_i hh
    cases e <;> first | rfl | exact absurd rfl (hh _ _ _)
  · rfl
  · cases h
/-- a, b = e, f with names of the def's own -/
def parB (sc : Scope) (xs : List Expr) (vs : List Expr) : Bool :=
  decide (sc.kind = .function) && xs.all (fun t => match t with | .Name x p => decide (sc.names.lookup x = some .local) && decide (p.line = ((xs.head?.map (·.pos.line)).getD 0)) | _ => false) && vs.all notStar && !vs.all (foldedForSure 8) && !vs.all (constantsAlone 8)
theorem block_fn {env : Env} (h : env.scope.kind = .function) : env.blockKind = .function := by
  unfold Env.blockKind
  rw [h]
  rfl
theorem starred_any {vs : List Expr} (h : vs.all notStar = true) : (vs.any fun x => match x with | .Starred _ _ => true | _ => false) = false := by
  induction vs with
  | nil => rfl
  | cons e vs ih =>
    rw [List.all_cons, Bool.and_eq_true] at h
    rw [List.any_cons, ih h.2]
    cases e <;> first | rfl | (cases h.1; done)
theorem swapped_two {x y : Str} {px py pt pt2 : Pos} {kt k2 : Nat} {a b : Expr} {env : Env} (h : parB env.scope [.Name x px, .Name y py] [a, b] = true) (hne : x ≠ y) :
    swappedStores [.Tuple [.Name x px, .Name y py] kt pt] (.Tuple [a, b] k2 pt2) env = pure (some [x, y]) := by
  unfold parB at h
  simp only [Bool.and_eq_true, List.all_cons, List.all_nil, Bool.and_true, decide_eq_true_eq, List.head?_cons, Option.map_some, Option.getD_some, Bool.not_eq_true', Bool.and_eq_false_imp] at h
  obtain ⟨⟨⟨⟨h1, ⟨h2, h3⟩, h4, h5⟩, h6, h7⟩, h8⟩, h9⟩ := h
  have st := starred_any (vs := [a, b]) (by simp [h6, h7])
  have hf : ([a, b].all (foldedForSure 8)) = false := by
    rw [List.all_cons, List.all_cons, List.all_nil, Bool.and_true]
    cases q : foldedForSure 8 a with
    | false => rfl
    | true => rw [h8 q]; rfl
  have hc : ([a, b].all (constantsAlone 8)) = false := by
    rw [List.all_cons, List.all_cons, List.all_nil, Bool.and_true]
    cases q : constantsAlone 8 a with
    | false => rfl
    | true => rw [h9 q]; rfl
  have e1 : (env.kindOf x == some NameKind.local) = true := by unfold Env.kindOf; rw [h2]; rfl
  have e2 : (env.kindOf y == some NameKind.local) = true := by unfold Env.kindOf; rw [h4]; rfl
  have e3 : py.line = px.line := of_decide_eq_true h5
  unfold swappedStores
  have bk := block_fn h1
  simp only [List.length_cons, List.length_nil, bk, bne_self_eq_false, st, hf, hc, List.filterMap_cons, List.filterMap_nil, List.head?_cons, Option.map_some, Option.getD_some, e1, e2, Bool.true_and]
  have e4 : (Expr.Name x px).pos.line = px.line := rfl
  rw [e4]
  have n1 : (y == x) = false := by rw [beq_eq_false_iff_ne]; exact fun z => hne z.symm
  have f1 : List.filter (fun b => !b == x) [y] = [y] := by rw [List.filter_cons, n1]; rfl
  have f2 : [x, y].eraseDups.length = 2 := by rw [List.eraseDups_cons, f1]; rfl
  simp only [e3, beq_self_eq_true, if_true, f2]
  cases a <;> cases b <;> first | rfl | (cases h6; done) | (cases h7; done)
end DL
/-! DL, part r: .. proved. -/
namespace DL
open PySem PySem.Spec L2

def chkG (G : GI) (N : List Str) (np : Nat) (sc : Scope) : Nat → Tg → Expr → Bool
  | 0, _, _ => false
  | n + 1, t, ex => match t, ex with
    | .name i, .Name x _ => decide (N[i]? = some x) && locB sc x
    | .tup ts, .Tuple es _ _ => decide (ts.length = es.length) && (ts.zip es).all fun q => notStar q.2 && chkG G N np sc n q.1 q.2
    | .item i k, .Subscript (.Name x _) a _ => decide (N[i]? = some x) && visB sc x && chkP G N np sc k a && notSlice a
    | _, _ => false
def chks (f : IS → Stmt → Bool) : List IS → List Stmt → Bool
  | [], [] => true
  | .frz _ :: r, xs => chks f r xs
  | s :: r, x :: xs => f s x && chks f r xs
  | _, _ => false
/-- x = e: not a comprehension, or one that is no local's -/
def setB (sc : Scope) (x : Str) (p : Pos) (e : Expr) : Bool := !isComp e || !(sc.names.lookup x == some NameKind.local)
/-- .. a comprehension stored at once -/
def lcB (sc : Scope) (x : Str) (p : Pos) : Expr → Bool
  | .ListComp _ _ scope pos => decide (sc.names.lookup x = some .local) && decide (sc.kind = .function) && (p.line == pos.line) && !(scope.names.any fun (n, k) => n == x && (k == .local || k == .cell))
  | _ => false
def isLc : IE → Bool
  | .p (.lc _ _ _ _ _) => true
  | _ => false
def chkS (G : GI) (N : List Str) (np : Nat) (sc : Scope) : Nat → IS → Stmt → Bool
  | 0, _, _ => false
  | n + 1, s, st => match s, st with
    | .pass, .Pass _ => true
    | .pass, .Expr (.Constant (.str _) _ _) _ => true
    | .brk, .Break _ => true
    | .cnt, .Continue _ => true
    | .bad, _ => true
    | .fset i c f e, .Assign [.Attribute (.Name x _) f' _] ex _ => decide (N[i]? = some x) && visB sc x && chkE G N np np sc e ex && decide (f = f') && G.fl.contains (c, f)
    | .set i e, .Assign [.Name x p] ex _ => decide (N[i]? = some x) && locB sc x && chkE G N np np sc e ex && (setB sc x p ex || (lcB sc x p ex && isLc e))
    | .setO i e, .Assign [.Name x p] ex _ => decide (N[i]? = some x) && locB sc x && chkE G N np np sc e ex && (setB sc x p ex || (lcB sc x p ex && isLc e))
    | .asg t e, .Assign [tg] ex _ => chkG G N np sc np t tg && chkE G N np np sc e ex && notStar tg && !isName tg && swN sc tg ex
    | .par [i, j] es, .Assign [.Tuple [.Name x px, .Name y py] kt pt] (.Tuple [a, b] k2 pt2) _ => decide (N[i]? = some x) && decide (N[j]? = some y) && decide (i ≠ j) && decide (x ≠ y) && parB sc [.Name x px, .Name y py] [a, b] && flB G N np np sc es [a, b]
    | .aug i op e, .AugAssign (.Name x _) op' ex _ => decide (op = op') && decide (N[i]? = some x) && locB sc x && chkE G N np np sc e ex
    | .ret e, .Return (some ex) _ => chkE G N np np sc e ex
    | .retO i, .Return (some (.Name x _)) _ => decide (N[i]? = some x) && visB sc x
    | .ret0, .Return none _ => true
    | .iff c a b, .If c' a' b' _ => chkE G N np np sc c c' && testB c' && chks (chkS G N np sc n) a a' && chks (chkS G N np sc n) b b'
    | .loop t k it body, .For tg it' body' [] _ => notSet it' && chkI (chkP G N np sc) sc (match tg with | .Tuple [_, _] _ _ => [0, 1] | _ => []) k it it' && chkG G N np sc np t tg && chks (chkS G N np sc n) body body'
    | .loopI t .seq it body, .For tg it' body' [] _ => notSet it' && chkE G N np np sc it it' && chkG G N np sc np t tg && chks (chkS G N np sc n) body body'
    | .loopI t .range1 it body, .For tg (.Call (.Name x _) [e] [] _) body' [] _ => decide (x = "range") && glB sc "range" && notStar e && chkE G N np np sc it e && chkG G N np sc np t tg && chks (chkS G N np sc n) body body'
    | .ex e, .Expr ex _ => chkE G N np np sc e ex && !isComp ex
    | .app i e, .Expr (.Call (.Attribute (.Name x _) m ap) [ex] [] cp) _ => decide (m = "append") && decide (N[i]? = some x) && visB sc x && chkE G N np np sc e ex && notStar ex && (ap.endLine == cp.line)
    | .ext i e, .Expr (.Call (.Attribute (.Name x _) m ap) [ex] [] cp) _ => decide (m = "extend") && decide (N[i]? = some x) && visB sc x && chkE G N np np sc e ex && notStar ex && (ap.endLine == cp.line)
    | _, _ => false
section
variable {X : Cx} {ι : Addr → Nat → Prop} {Γ Γ1 Γ2 Γ' : List Slot} {sc : Scope} {N : List Str} {G : GI} {T : Tb} {n np : Nat}
def PhS : SR → Ph
  | .nx Γ => { nx := fun Γ' => Γ' = Γ, rt := fun _ _ => False }
  | .rt r Γ => { nx := fun _ => False, rt := fun r' Γ' => r' = r ∧ Γ' = Γ }
  | .bk Γ => { nx := fun _ => False, rt := fun _ _ => False, bk := fun Γ' => Γ' = Γ }
  | .ct Γ => { nx := fun _ => False, rt := fun _ _ => False, ct := fun Γ' => Γ' = Γ }
theorem setS_some {i : Nat} {s : Slot} (h : setS Γ i s = some Γ') : stoB Γ i = true ∧ Γ' = Γ.set i s := by
  unfold setS at h
  split at h
  · exact ⟨‹_›, (Option.some.inj h).symm⟩
  · cases h
theorem ownL_some {i : Nat} {o : List D × (List D → List Slot)} (h : ownL Γ i = some o) : (Γ[i]? = some (.ow (.lst o.1)) ∨ Γ[i]? = some (.mu (.lst o.1))) ∧ ∀ ds', OwnL Γ i o.1 ds' (o.2 ds') := by
  unfold ownL at h
  split at h
  · cases h; exact ⟨.inl ‹_›, fun _ => .ow ‹_›⟩
  · cases h; exact ⟨.inr ‹_›, fun _ => .mu ‹_›⟩
  · cases h
theorem ae_cons {e : Expr} {es : List Expr} {env : Env} (h : notStar e = true) : assignEach (e :: es) env = (false, assign e env) :: assignEach es env := by
  cases e <;> first | rfl | (cases h; done)
theorem ae_len {env : Env} : ∀ {es : List Expr}, es.all notStar = true → (assignEach es env).length = es.length ∧ (assignEach es env).findIdx? (·.1) = none
  | [], _ => ⟨rfl, rfl⟩
  | e :: es, h => by
    rw [List.all_cons, Bool.and_eq_true] at h
    obtain ⟨h1, h2⟩ := ae_len h.2
    rw [ae_cons h.1]
    refine ⟨by rw [List.length_cons, List.length_cons, h1], ?_⟩
    rw [List.findIdx?_cons, h2]
    rfl
theorem stgs_len {f : Tg → D → List Slot → Option (List Slot)} : ∀ {ts : List Tg} {ds : List D} {Γ Γ' : List Slot}, stgs f ts ds Γ = some Γ' → ts.length = ds.length
  | [], [], _, _, _ => rfl
  | [], _ :: _, _, _, h => by cases h
  | _ :: _, [], _, _, h => by cases h
  | t :: ts, d :: ds, Γ, Γ', h => by
    obtain ⟨Γ1, _, h2⟩ := obind_some h
    rw [List.length_cons, List.length_cons, stgs_len h2]
theorem sub_assign {o a : Expr} {pos' : Pos} {env : Env} (h : notSlice a = true) : ∀ v, assign (.Subscript o a pos') env v = (do
      let ov ← holding [v] (eval o env)
      let iv ← holding [v, ov] (eval a env)
      standAt pos'
      holding [v, ov, iv] (setItem ov iv v)
      release [v, ov, iv] []) := by
  intro v
  cases a <;> first | (cases h; done) | rfl
theorem stg_ok (S : Sd X sc N) (g : GOk X ι G T) : ∀ (n : Nat) {t : Tg} {tg : Expr} {d : D} {Γ Γ' : List Slot}, chkG G N np sc n t tg = true → stg T np n t d Γ = some Γ' → Egk X ι tg d Γ Γ'
  | 0, _, _, _, _, _, _, h => by cases h
  | n + 1, t, tg, d, Γ, Γ', c, h => by
    have ih := fun {t : Tg} {tg : Expr} {d : D} {Γ Γ' : List Slot} => stg_ok S g n (t := t) (tg := tg) (d := d) (Γ := Γ) (Γ' := Γ')
    unfold chkG at c
    unfold stg at h
    split at c
    · obtain ⟨c1, c2⟩ := and_split c
      obtain ⟨h1, h2⟩ := setS_some h
      subst h2
      exact egk_name S _ (dec c1) c2 h1
    · obtain ⟨c1, c2⟩ := and_split c
      rename_i ts es _ _
      cases d with
      | tup ds =>
        have h' : stgs (stg T np n) ts ds Γ = some Γ' := h
        have key : ∀ {ts : List Tg} {es : List Expr} {ds : List D} {Γ Γ' : List Slot}, ts.length = es.length → ((ts.zip es).all fun q => notStar q.2 && chkG G N np sc n q.1 q.2) = true → stgs (stg T np n) ts ds Γ = some Γ' → Egs X ι es ds Γ Γ' ∧ es.all notStar = true := by
          intro ts
          induction ts with
          | nil =>
            intro es ds Γ Γ' l c h
            cases es with
            | cons _ _ => cases l
            | nil =>
              cases ds with
              | cons _ _ => cases h
              | nil => cases h; exact ⟨egs_nil, rfl⟩
          | cons t ts iht =>
            intro es ds Γ Γ' l c h
            cases es with
            | nil => cases l
            | cons e es =>
              cases ds with
              | nil => cases h
              | cons d ds =>
                rw [List.zip_cons_cons, List.all_cons] at c
                obtain ⟨c1, c2⟩ := and_split c
                obtain ⟨c3, c4⟩ := and_split c1
                obtain ⟨Γ1, h1, h2⟩ := obind_some h
                obtain ⟨z1, z2⟩ := iht (by simpa using l) c2 h2
                refine ⟨egs_cons (ih c4 h1) z1 (by rw [ae_cons c3]; rfl), ?_⟩
                rw [List.all_cons, c3, z2]; rfl
        obtain ⟨z1, z2⟩ := key (dec c1) c2 h'
        have l1 := stgs_len h'
        have l2 := dec c1
        obtain ⟨z3, z4⟩ := ae_len (env := X.env) z2
        exact egk_tup S.toSx z1 (by rw [z3]; omega) z4
      | _ => cases h
    · obtain ⟨c, c4⟩ := and_split c
      obtain ⟨c, c3⟩ := and_split c
      obtain ⟨c1, c2⟩ := and_split c
      obtain ⟨z, h1, h⟩ := obind_some h
      obtain ⟨r, e1, e2⟩ := obind_some h1
      have := int_of e2
      subst this
      obtain ⟨o, h2, h⟩ := obind_some h
      obtain ⟨j, h3, h4⟩ := omap_some h
      subst h4
      obtain ⟨h5, h6⟩ := ownL_some h2
      exact egk_item S.toSx _ (dec c1) c2 (evP_ok np X sc _ _ Γ _ S.toSx g c3 e1).ep (h6 _) h3 (sub_assign c4)
    · cases c
/-- an own list, an own dict, never changed again -/
theorem sts_frz {i : Nat} {m : M} {st : List Stmt} {Φ : Ph} (hs : Γ[i]? = some (.ow m)) (hm : ∀ C fs, m ≠ .ins C fs) (h : Sts X ι (Γ.set i (.im m.toD)) st Φ) : Sts X ι Γ st Φ := by
  intro C σ H tk g pins s I
  obtain ⟨q, e1, r⟩ := g.ok i _ hs
  have fin : ∀ (u : HO), H q = some u → Mut (some u) → ¬ Im ι u → (∀ o, Rep X.K ι (upd H q (.frz o u)) m.toD (.ref q)) → wpAny (model X.prog X.w) X.A (PySem.execs st X.env) (SP X pins (lift X.K ι C H Φ)) X.xe s := by
    intro u e mu ni rr
    obtain ⟨o, J⟩ := fz_inv I e mu
    have kp : Kp ι H (upd H q (.frz o u)) := fun b w q' i => by
      rw [upd_ne (fun z => by subst z; rw [e] at q'; cases q'; exact ni i)]; exact q'
    have g2 : EnvOk X.K ι C (upd H q (.frz o u)) σ (Γ.set i (.im m.toD)) := by
      have hi : i < Γ.length := (List.getElem?_eq_some_iff.mp hs).1
      have h0 : C.H0 q = none := g.new i m q hs e1
      have own : ∀ (j : Nat), i ≠ j → ∀ p, isOwn Γ[j]? → σ[j]? = some (some (.ref p)) → p ≠ q := fun j ne p h1 h2 z => g.dis i j p ne (by rw [hs]; trivial) h1 (by rw [e1, z]) h2
      have sub : ∀ j : Nat, isOwn (Γ.set i (.im m.toD))[j]? → i ≠ j ∧ isOwn Γ[j]? := fun j z => by
        rw [get_set hi] at z
        split at z
        · exact z.elim
        · exact ⟨‹_›, z⟩
      refine ⟨⟨by rw [List.length_set]; exact g.len, fun j s e => ?_⟩, fun j l p ne hj hl e1 e2 => g.dis j l p ne (sub j hj).2 (sub l hl).2 e1 e2, fun j m' p e2 e3 => ?_, fun j m' p e2 e3 => ?_, fun j p e => ?_, fun b w q' i => ?_, fun b w q' => ?_⟩
      · rw [get_set hi] at e
        split at e
        · rename_i z
          cases e
          subst z
          exact ⟨_, e1, rr o⟩
        · rename_i ne
          have z := g.ok j s e
          cases s with
          | un => trivial
          | im d => obtain ⟨v, x, y⟩ := z; exact ⟨v, x, y.mono kp⟩
          | ow m' => obtain ⟨p, x, y⟩ := z; exact ⟨p, x, y.same kp fun o' e' => by rw [upd_ne (own j ne p (by rw [e]; trivial) x)]; exact e'⟩
          | mu m' => obtain ⟨p, x, y⟩ := z; exact ⟨p, x, y.same kp fun o' e' => by rw [upd_ne (own j ne p (by rw [e]; trivial) x)]; exact e'⟩
      · rw [get_set hi] at e2
        split at e2
        · cases e2
        · exact g.new j m' p e2 e3
      · rw [get_set hi] at e2
        split at e2
        · cases e2
        · exact g.mus j m' p e2 e3
      · obtain ⟨m', e'⟩ := g.muP j p e
        refine ⟨m', ?_⟩
        rw [get_set hi]
        split
        · rename_i z; subst z; rw [hs] at e'; cases e'
        · exact e'
      · rw [upd_ne (ne_of_none q' h0)]; exact g.fr b w q' i
      · obtain ⟨o', e'⟩ := g.tr b w q'
        exact ⟨o', by rw [upd_ne (ne_of_none q' h0)]; exact e'⟩
    refine thn (h C σ _ tk g2 pins s J) fun f s1 z => ?_
    exact SP.mono z (fun _ _ ⟨Γ2, g2, k2, z2⟩ => ⟨Γ2, g2, kp.trans k2, z2⟩) (fun _ _ z => z) (fun _ _ ⟨Γ2, g2, k2, z2⟩ => ⟨Γ2, g2, kp.trans k2, z2⟩) (fun _ _ ⟨Γ2, g2, k2, z2⟩ => ⟨Γ2, g2, kp.trans k2, z2⟩)
  have kp : ∀ u : HO, H q = some u → ¬ Im ι u → ∀ o, Kp ι H (upd H q (.frz o u)) := fun u e ni o b w q' i => by
    rw [upd_ne (fun z => by subst z; rw [e] at q'; cases q'; exact ni i)]; exact q'
  cases m with
  | lst ds =>
    obtain ⟨vs, e, rr⟩ := r
    exact fin _ e trivial (fun z => z) fun o => .lst ⟨o, upd_same⟩ (rr.mono (kp _ e (fun z => z) o))
  | dic ds =>
    obtain ⟨vs, e, rr⟩ := r
    exact fin _ e trivial (fun z => z) fun o => .dic ⟨o, upd_same⟩ (rr.mono (kp _ e (fun z => z) o))
  | ins C fs => exact absurd rfl (hm C fs)
def IHs (X : Cx) (ι : Addr → Nat → Prop) (G : GI) (T : Tb) (sc : Scope) (N : List Str) (np n : Nat) : Prop :=
  ∀ (s : IS) (st : Stmt) (Γ : List Slot) (sr : SR), chkS G N np sc n s st = true → exS T np n s Γ = some sr → St X ι Γ st (PhS sr)
theorem seq_some {o : Option SR} {f : List Slot → Option SR} {sr : SR} (h : SR.seq o f = some sr) : (∃ Γ, o = some (.nx Γ) ∧ f Γ = some sr) ∨ (o = some sr ∧ ∀ Γ, sr ≠ .nx Γ) := by
  cases o with
  | none => cases h
  | some s =>
    cases s with
    | nx Γ => exact .inl ⟨Γ, rfl, h⟩
    | rt r Γ => cases h; exact .inr ⟨rfl, fun Γ z => nomatch z⟩
    | bk Γ => cases h; exact .inr ⟨rfl, fun Γ z => nomatch z⟩
    | ct Γ => cases h; exact .inr ⟨rfl, fun Γ z => nomatch z⟩
theorem execs_ok {f : IS → Stmt → Bool} {fx : IS → List Slot → Option SR} (ih : ∀ (s : IS) (st : Stmt) (Γ : List Slot) (sr : SR), f s st = true → fx s Γ = some sr → St X ι Γ st (PhS sr)) :
    ∀ {ss : List IS} {sts : List Stmt} {Γ : List Slot} {sr : SR}, chks f ss sts = true → execs fx ss Γ = some sr → Sts X ι Γ sts (PhS sr) := by
  intro ss
  induction ss with
  | nil =>
    intro sts Γ sr c h
    cases sts with
    | nil => cases h; exact sts_nil rfl
    | cons _ _ => cases c
  | cons s r ihr =>
    intro sts Γ sr c h
    have gen : ∀ {x : Stmt} {xs : List Stmt}, (f s x && chks f r xs) = true → SR.seq (fx s Γ) (fun Γ' => execs fx r Γ') = some sr → Sts X ι Γ (x :: xs) (PhS sr) := by
      intro x xs c h
      obtain ⟨c1, c2⟩ := and_split c
      rcases seq_some h with ⟨Γ1, e1, e2⟩ | ⟨e1, e2⟩
      · refine sts_cons (fun Γ' => Γ' = Γ1) ?_ fun Γ' z => ?_
        · refine (ih _ _ _ _ c1 e1).mono (fun _ z => z) (fun _ _ z => z.elim) (fun _ z => z.elim) (fun _ z => z.elim) ?_
          cases sr <;> rfl
        · subst z; exact ihr c2 e2
      · refine sts_cons (fun _ => False) ?_ fun Γ' z => z.elim
        refine (ih _ _ _ _ c1 e1).mono (fun _ z => ?_) (fun _ _ z => z) (fun _ z => z) (fun _ z => z) rfl
        cases sr with
        | nx Γ => exact e2 Γ rfl
        | rt _ _ => exact z
        | bk _ => exact z
        | ct _ => exact z
    cases s with
    | frz i =>
      have h' : (match Γ[i]? with
        | some (.ow (.lst ds)) => execs fx r (Γ.set i (.im (.lst ds)))
        | some (.ow (.dic ds)) => execs fx r (Γ.set i (.im (.dic ds)))
        | _ => none) = some sr := h
      have c' : chks f r sts = true := c
      split at h'
      · exact sts_frz (m := .lst _) ‹_› (fun _ _ z => nomatch z) (ihr c' h')
      · exact sts_frz (m := .dic _) ‹_› (fun _ _ z => nomatch z) (ihr c' h')
      · cases h'
    | _ =>
      cases sts with
      | nil => cases c
      | cons x xs => exact gen c h
end
end DL
/-! DL, part s: every statement's term; a def by its term. -/
namespace DL
open PySem PySem.Spec L2
section
variable {X : Cx} {ι : Addr → Nat → Prop} {Γ Γ1 Γ2 Γ' : List Slot} {sc : Scope} {N : List Str} {G : GI} {T : Tb} {n np : Nat}
theorem st_par {x y : Str} {px py pt pt2 pos : Pos} {kt k2 : Nat} {a b : Expr} {d1 d2 : D} {Φ : Ph} {i j : Nat} (S : Sd X sc N) (hi : N[i]? = some x) (hj : N[j]? = some y) (hij : i ≠ j) (nd : x ≠ y) (hp : parB sc [.Name x px, .Name y py] [a, b] = true) (ha : Evds X ι Γ [a, b] [d1, d2] Γ1)
    (h1 : setS Γ1 i (.im d1) = some Γ2) (h2 : setS Γ2 j (.im d2) = some Γ') (h' : Φ.nx Γ') : St X ι Γ (.Assign [.Tuple [.Name x px, .Name y py] kt pt] (.Tuple [a, b] k2 pt2) pos) Φ := by
  intro C σ H tk g
  have hp0 := hp
  unfold parB at hp0
  simp only [Bool.and_eq_true, List.all_cons, List.all_nil, Bool.and_true, decide_eq_true_eq] at hp0
  obtain ⟨⟨⟨⟨q1, ⟨q2, q3⟩, q4, q5⟩, q6, q7⟩, q8⟩, q9⟩ := hp0
  refine WS.of (ps_par (i := i) (j := j) S.calm (by rw [S.hN]; exact S.nd) (by rw [S.hN]; exact hi) (by rw [S.hN]; exact hj) hij (by rw [S.hsc]; exact q2) (by rw [S.hsc]; exact q4) (pa_wa X _) (swapped_two (by rw [S.hsc]; exact hp) nd)) ?_
  refine (ha.2 C σ H g).mono fun vs H1 ⟨g1, s1, r1⟩ => ?_
  cases r1 with
  | cons r1 r2 =>
    cases r2 with
    | cons r2 r3 =>
      cases r3
      obtain ⟨z1, z2⟩ := setS_some h1
      obtain ⟨z3, z4⟩ := setS_some h2
      subst z2 z4
      obtain ⟨w1, w2⟩ := stoB.lt z1
      obtain ⟨w3, w4⟩ := stoB.lt z3
      exact ⟨_, _, rfl, _, (g1.setIm w1 w2 r1).setIm w3 w4 r2, s1.kp, h'⟩
theorem set_ok (S : Sd X sc N) (g : GOk X ι G T) {i : Nat} {e : IE} {x : Str} {p pos : Pos} {ex : Expr} {r : R} {s : Slot} (c1 : N[i]? = some x) (c2 : locB sc x = true) (c3 : chkE G N np np sc e ex = true) (c4 : (setB sc x p ex || (lcB sc x p ex && isLc e)) = true)
    (h : evI T np np e Γ = some (r, Γ1)) (hs : setS Γ1 i s = some Γ2) (hr : (∃ m, r = .ow m ∧ s = .ow m) ∨ (∃ d, r.toD = some d ∧ s = .im d)) {Φ : Ph} (h' : Φ.nx Γ2) : St X ι Γ (.Assign [.Name x p] ex pos) Φ := by
  obtain ⟨h1, h2⟩ := setS_some hs
  subst h2
  have z := (evI_ok np X sc e ex Γ Γ1 r S.toSx g c3 h).ev
  rw [Bool.or_eq_true] at c4
  rcases c4 with c4 | c4
  · have hw : swapsWith ex (some (.Name x p)) pos.line X.env = pure false := by
      unfold setB at c4
      rw [Bool.or_eq_true] at c4
      rcases c4 with c4 | c4
      · exact swaps_none (notb c4)
      · exact swaps_cell (by rw [S.hsc]; exact notb c4)
    rcases hr with ⟨m, rfl, rfl⟩ | ⟨d, e2, rfl⟩
    · exact st_set_ow S i c1 c2 z h' h1 hw
    · exact st_set S i c1 c2 (ev_d z (toD_of e2)) h' h1 hw
  · obtain ⟨w4, c5⟩ := and_split c4
    clear c4
    unfold isLc at c5
    split at c5
    · rename_i vs k it c e'
      cases np with
      | zero => cases h
      | succ m =>
        unfold chkE at c3
        unfold evI at h
        obtain ⟨r', e1, e2⟩ := omap_some h
        cases e2
        rw [evP_succ] at e1
        have c3' : chkP G N (m + 1) sc (.lc vs k it c e') ex = true := c3
        clear c3
        unfold chkP at c3'
        unfold lcB at w4
        cases ex with
        | ListComp elt gs scope pos' =>
          obtain ⟨w4, d4⟩ := and_split w4
          obtain ⟨w4, d3⟩ := and_split w4
          obtain ⟨d1, d2⟩ := and_split w4
          match gs, c3' with
          | [⟨tg, it', ifs, a⟩], c3' =>
            obtain ⟨c, k7⟩ := and_split c3'
            obtain ⟨c, k6⟩ := and_split c
            obtain ⟨c, k5⟩ := and_split c
            obtain ⟨c, k4⟩ := and_split c
            obtain ⟨c, k3⟩ := and_split c
            obtain ⟨c1', c2'⟩ := and_split c
            have := dec c1'
            subst this
            obtain ⟨rs, f1, f⟩ := obind_some e1
            obtain ⟨ds, f2, f⟩ := obind_some f
            obtain ⟨f3, f⟩ := ite_some f
            obtain ⟨ys, f4, f5⟩ := omap_some f
            subst f5
            have lc := lcOk_of (evP_ok m) S.toSx g k3 k4 k6 k7 f1 f2 f3 f4
            rcases hr with ⟨m', q1, q2⟩ | ⟨d, q1, q2⟩
            · cases q1; subst q2
              exact st_setLc S i c1 (dec d1) lc k5 (dec d2) d3 (notb d4) h' h1 (folded_set c2')
            · cases q1; subst q2
              exact st_setLcD S i c1 (dec d1) lc k5 (dec d2) d3 (notb d4) h' h1 (folded_set c2')
          | [], c3' => have z : false = true := c3'; cases z
          | ⟨_, _, _, _⟩ :: ⟨_, _, _, _⟩ :: _, c3' => have z : false = true := c3'; cases z
        | _ => cases w4
    · cases c5
end
end DL
/-! DL, part t: every statement's term; a def by its term. -/
namespace DL
open PySem PySem.Spec L2
section
variable {X : Cx} {ι : Addr → Nat → Prop} {Γ Γ1 Γ2 Γ' : List Slot} {sc : Scope} {N : List Str} {G : GI} {T : Tb} {n np : Nat}
theorem loop_ok {tg it : Expr} {ds : List D} {body : List Stmt} {f : D → List Slot → Option SR} {sr : SR} {pos : Pos} (S : Sd X sc N) (po : PassesOwn (model X.prog X.w) X.A X.env X.xe) (hi : Eiv X ι Γ tg it ds Γ1) (h : loopR f ds Γ1 = some sr)
    (hb : ∀ d Γ sr, f d Γ = some sr → ∃ Γ', Egk X ι tg d Γ Γ' ∧ Sts X ι Γ' body (PhS sr)) (hf : ∀ x, foldedSetIterable it X.env x = pure x) : St X ι Γ (.For tg it body [] pos) (PhS sr) := by
  refine st_for S po hi (fun i Γ' => loopR f (ds.drop i) Γ' = some sr) (by rw [List.drop_zero]; exact h) (fun i d Γ' e hI => ?_) (fun Γ' hI => ?_) hf
  · have hlt : i < ds.length := (List.getElem?_eq_some_iff.mp e).1
    have e' : ds[i] = d := by rw [List.getElem?_eq_getElem hlt] at e; exact Option.some.inj e
    rw [List.drop_eq_getElem_cons hlt, e'] at hI
    obtain ⟨s1, h1, h2⟩ := obind_some hI
    obtain ⟨Γ'', h3, h4⟩ := hb d Γ' s1 h1
    refine ⟨Γ'', h3, ?_⟩
    cases s1 with
    | nx Γ3 => exact h4.mono (fun _ z => by rw [z]; exact h2) (fun _ _ z => z.elim) (fun _ z => z.elim) (fun _ z => z.elim) (by cases sr <;> rfl)
    | ct Γ3 => exact h4.mono (fun _ z => z.elim) (fun _ _ z => z.elim) (fun _ z => z.elim) (fun _ z => by rw [z]; exact h2) (by cases sr <;> rfl)
    | bk Γ3 => cases h2; exact h4.mono (fun _ z => z.elim) (fun _ _ z => z.elim) (fun _ z => z) (fun _ z => z.elim) rfl
    | rt r Γ3 => cases h2; exact h4.mono (fun _ z => z.elim) (fun _ _ z => z) (fun _ z => z.elim) (fun _ z => z.elim) rfl
  · rw [List.drop_length] at hI
    cases hI
    rfl
theorem rd_tup {tg : Expr} (h : (match tg with | .Tuple [_, _] _ _ => [0, 1] | _ => ([] : List Nat)).length = 2) : ∃ ts kk pt, tg = .Tuple ts kk pt := by
  split at h
  · exact ⟨_, _, _, rfl⟩
  · cases h
theorem exS_ok (S : Sd X sc N) (g : GOk X ι G T) (po : PassesOwn (model X.prog X.w) X.A X.env X.xe) : ∀ n, IHs X ι G T sc N np n
  | 0 => fun s st Γ sr c h => by cases h
  | n + 1 => fun s st Γ sr c h => by
    have ih := exS_ok S g po n
    have ihs := fun {ss : List IS} {sts : List Stmt} {Γ : List Slot} {sr : SR} => execs_ok (ss := ss) (sts := sts) (Γ := Γ) (sr := sr) ih
    unfold chkS at c
    unfold exS at h
    split at c
    · cases h; exact st_pass rfl
    · cases h; exact st_doc rfl
    · cases h; exact st_break rfl
    · cases h; exact st_continue rfl
    -- bad
    · cases h
    -- fset
    · obtain ⟨c, c5⟩ := and_split c
      obtain ⟨c, c4⟩ := and_split c
      obtain ⟨c, c3⟩ := and_split c
      obtain ⟨c1, c2⟩ := and_split c
      have := dec c4
      subst this
      obtain ⟨⟨d, Γ1⟩, h1, h⟩ := obind_some h
      dsimp only at h
      split at h
      · rename_i e0
        obtain ⟨⟨q1, q2, q3, q4⟩, h⟩ := ite_some h
        cases h
        subst q1
        obtain ⟨r, e1, e2⟩ := evD_some h1
        have m := List.contains_iff_mem.mp c5
        obtain ⟨f1, f2⟩ := g.fl _ _ m
        exact st_fld (fl' := []) S.toSx _ (dec c1) c2 (ev_d (evI_ok np X sc _ _ Γ Γ1 r S.toSx g c3 e1).ev (toD_of e2)) e0 f1 f2 (fun z => q2 (g.iu _ _ m _ z)) q3 q4 rfl (swaps_other rfl)
      · cases h
    -- set
    · obtain ⟨c, c4⟩ := and_split c
      obtain ⟨c, c3⟩ := and_split c
      obtain ⟨c1, c2⟩ := and_split c
      obtain ⟨⟨d, Γ1⟩, h1, h⟩ := obind_some h
      obtain ⟨Γ2, h2, h3⟩ := omap_some h
      subst h3
      obtain ⟨r, e1, e2⟩ := evD_some h1
      exact set_ok S g (dec c1) c2 c3 c4 e1 h2 (.inr ⟨d, e2, rfl⟩) rfl
    · obtain ⟨c, c4⟩ := and_split c
      obtain ⟨c, c3⟩ := and_split c
      obtain ⟨c1, c2⟩ := and_split c
      obtain ⟨⟨r, Γ1⟩, h1, h⟩ := obind_some h
      dsimp only at h
      split at h
      · obtain ⟨Γ2, h2, h3⟩ := omap_some h
        subst h3
        exact set_ok S g (dec c1) c2 c3 c4 h1 h2 (.inl ⟨_, rfl, rfl⟩) rfl
      · cases h
    -- asg
    · obtain ⟨c, c5⟩ := and_split c
      obtain ⟨c, c4⟩ := and_split c
      obtain ⟨c, c3⟩ := and_split c
      obtain ⟨c1, c2⟩ := and_split c
      obtain ⟨⟨d, Γ1⟩, h1, h⟩ := obind_some h
      obtain ⟨Γ2, h2, h3⟩ := omap_some h
      subst h3
      obtain ⟨r, e1, e2⟩ := evD_some h1
      exact st_asg (ev_d (evI_ok np X sc _ _ Γ Γ1 r S.toSx g c2 e1).ev (toD_of e2)) (stg_ok S g np c1 h2) rfl (swaps_other (notb c4)) (swapped_none (by rw [S.hsc]; exact c5)) (by rw [ae_cons c3]; rfl)
    -- par
    · obtain ⟨c, c6⟩ := and_split c
      obtain ⟨c, c5⟩ := and_split c
      obtain ⟨c, c4⟩ := and_split c
      obtain ⟨c, c3⟩ := and_split c
      obtain ⟨c1, c2⟩ := and_split c
      obtain ⟨⟨ds, Γ1⟩, h1, h⟩ := obind_some h
      obtain ⟨Γ2, h2, h3⟩ := omap_some h
      subst h3
      obtain ⟨z1, z2, z3⟩ := evds_ok (evI_ok np) S.toSx g c6 h1
      match ds, h2, z1 with
      | [d1, d2], h2, z1 =>
        obtain ⟨Γ3, q1, q2⟩ := obind_some h2
        obtain ⟨Γ4, q3, q4⟩ := obind_some q2
        cases q4
        exact st_par S (dec c1) (dec c2) (dec c3) (dec c4) c5 z1 q1 q3 rfl
      | [], h2, _ => cases h2
      | [_], h2, _ => obtain ⟨_, _, q⟩ := obind_some h2; cases q
      | _ :: _ :: _ :: _, h2, _ => obtain ⟨_, _, q⟩ := obind_some h2; obtain ⟨_, _, q⟩ := obind_some q; cases q
    -- aug
    · obtain ⟨c, c4⟩ := and_split c
      obtain ⟨c, c3⟩ := and_split c
      obtain ⟨c1, c2⟩ := and_split c
      obtain ⟨f, hf, h⟩ := obind_some h
      split at h
      · rename_i k e0
        obtain ⟨⟨r, Γ1⟩, h1, h⟩ := obind_some h
        obtain ⟨l, h2, h⟩ := obind_some h
        obtain ⟨Γ2, h3, h4⟩ := omap_some h
        subst h4
        have := int_of h2
        dsimp only at this
        subst this
        have := dec c1
        subst this
        obtain ⟨q1, q2⟩ := setS_some h3
        subst q2
        have z := (evI_ok np X sc _ _ Γ Γ1 _ S.toSx g c4 h1).ev
        unfold opI at hf
        split at hf
        · cases hf
          exact st_aug S _ ip_add (dec c2) c3 e0 z rfl q1
        · cases hf
          exact st_aug S _ ip_sub (dec c2) c3 e0 z rfl q1
        · cases hf
      · cases h
    -- ret
    · obtain ⟨⟨r, Γ1⟩, h1, h⟩ := omap_some h
      subst h
      exact st_ret (evI_ok np X sc _ _ Γ Γ1 r S.toSx g c h1).ev ⟨rfl, rfl⟩
    · obtain ⟨c1, c2⟩ := and_split c
      dsimp only at h
      split at h
      · cases h
        exact st_ret_ow S.toSx _ (dec c1) c2 ‹_› ⟨rfl, rfl⟩
      · cases h
    · cases h; exact st_retN ⟨rfl, rfl⟩
    -- if
    · obtain ⟨c, c4⟩ := and_split c
      obtain ⟨c, c3⟩ := and_split c
      obtain ⟨c1, c2⟩ := and_split c
      obtain ⟨⟨r, Γ1⟩, h1, h⟩ := obind_some h
      obtain ⟨q, h2, h⟩ := obind_some h
      have := bl_of h2
      dsimp only at this
      subst this
      have z := (evI_ok np X sc _ _ Γ Γ1 _ S.toSx g c1 h1).et q rfl c2
      refine st_if z (fun e => ?_) (fun e => ?_)
      · subst e; rw [if_pos rfl] at h; exact ihs c3 h
      · subst e; rw [if_neg (by simp)] at h; exact ihs c4 h
    -- loops
    · obtain ⟨c, c4⟩ := and_split c
      obtain ⟨c, c3⟩ := and_split c
      obtain ⟨c1, c2⟩ := and_split c
      obtain ⟨rs, h1, h⟩ := obind_some h
      obtain ⟨ds, h2, h⟩ := obind_some h
      refine loop_ok S po (eiv_p (ei_ok (evP_ok np) S.toSx g c2 h1 h2 rd_tup)) h (fun d Γ sr e => ?_) (folded_set c1)
      obtain ⟨Γ2, e1, e2⟩ := obind_some e
      exact ⟨Γ2, stg_ok S g np c3 e1, ihs c4 e2⟩
    · obtain ⟨c, c4⟩ := and_split c
      obtain ⟨c, c3⟩ := and_split c
      obtain ⟨c1, c2⟩ := and_split c
      obtain ⟨⟨d, Γ1⟩, h1, h⟩ := obind_some h
      obtain ⟨ds, h2, h⟩ := obind_some h
      obtain ⟨r, e1, e2⟩ := evD_some h1
      have z := ev_d (evI_ok np X sc _ _ Γ Γ1 r S.toSx g c2 e1).ev (toD_of e2)
      have w : ∀ (tg : Expr), Eiv X ι Γ tg _ ds Γ1 := fun tg => by
        unfold itR at h2
        split at h2 <;> rename_i q1 q2 <;> first | (cases q1; done) | (cases h2; done) | skip
        all_goals cases q2
        · cases h2; exact eiv_list z
        · cases h2; exact eiv_tup z
        · cases h2; exact eiv_str z
      refine loop_ok S po (w _) h (fun d Γ sr e => ?_) (folded_set c1)
      obtain ⟨Γ2, e1, e2⟩ := obind_some e
      exact ⟨Γ2, stg_ok S g np c3 e1, ihs c4 e2⟩
    · obtain ⟨c, c6⟩ := and_split c
      obtain ⟨c, c5⟩ := and_split c
      obtain ⟨c, c4⟩ := and_split c
      obtain ⟨c, c3⟩ := and_split c
      obtain ⟨c1, c2⟩ := and_split c
      obtain ⟨⟨d, Γ1⟩, h1, h⟩ := obind_some h
      obtain ⟨ds, h2, h⟩ := obind_some h
      obtain ⟨r, e1, e2⟩ := evD_some h1
      have := dec c1
      subst this
      have z := ev_d (evI_ok np X sc _ _ Γ Γ1 r S.toSx g c4 e1).ev (toD_of e2)
      unfold itR at h2
      split at h2 <;> rename_i q1 q2 <;> first | (cases q1; done) | (cases h2; done) | skip
      cases q2
      obtain ⟨⟨b1, b2⟩, e⟩ := gd_some h2
      subst e
      have w := fun tg p pos => eiv_range1 (tg := tg) (p := p) (pos := pos) S.toSx (g.bn _ (by decide +kernel)) c2 z b1 b2 (star_cons c3)
      simp only [Int.zero_add] at w
      refine loop_ok S po (w _ _ _) h (fun d Γ sr e => ?_) (folded_set rfl)
      obtain ⟨Γ2, e1, e2⟩ := obind_some e
      exact ⟨Γ2, stg_ok S g np c5 e1, ihs c6 e2⟩
    -- ex
    · obtain ⟨c1, c2⟩ := and_split c
      obtain ⟨⟨r, Γ1⟩, h1, h⟩ := omap_some h
      subst h
      exact st_expr (evI_ok np X sc _ _ Γ Γ1 r S.toSx g c1 h1).ev rfl (swaps_none (notb c2))
    -- app
    · obtain ⟨c, c6⟩ := and_split c
      obtain ⟨c, c5⟩ := and_split c
      obtain ⟨c, c4⟩ := and_split c
      obtain ⟨c, c3⟩ := and_split c
      obtain ⟨c1, c2⟩ := and_split c
      have := dec c1
      subst this
      obtain ⟨⟨d, Γ1⟩, h1, h⟩ := obind_some h
      obtain ⟨o0, h2, h⟩ := obind_some h
      obtain ⟨o, h3, h⟩ := obind_some h
      obtain ⟨hz, h⟩ := gd_some h
      subst h
      obtain ⟨r, e1, e2⟩ := evD_some h1
      exact st_append S.toSx _ (dec c2) c3 (ownL_some h2).1 (ev_d (evI_ok np X sc _ _ Γ Γ1 r S.toSx g c4 e1).ev (toD_of e2)) ((ownL_some h3).2 _) hz rfl c6 (star_cons c5)
    · obtain ⟨c, c6⟩ := and_split c
      obtain ⟨c, c5⟩ := and_split c
      obtain ⟨c, c4⟩ := and_split c
      obtain ⟨c, c3⟩ := and_split c
      obtain ⟨c1, c2⟩ := and_split c
      have := dec c1
      subst this
      obtain ⟨⟨d, Γ1⟩, h1, h⟩ := obind_some h
      dsimp only at h
      split at h
      · obtain ⟨o0, h2, h⟩ := obind_some h
        obtain ⟨o, h3, h⟩ := obind_some h
        obtain ⟨hz, h⟩ := gd_some h
        subst h
        obtain ⟨r, e1, e2⟩ := evD_some h1
        exact st_extend S.toSx _ (dec c2) c3 (ownL_some h2).1 (ev_d (evI_ok np X sc _ _ Γ Γ1 r S.toSx g c4 e1).ev (toD_of e2)) .im ((ownL_some h3).2 _) hz rfl c6 (star_cons c5)
      · cases h
    · cases c
end
/-! ### a def -/
section
variable {P : Program} {w : World} {K : PySem.W.Frag} {mg : Str → Option Value} {base : Heap} {ι : Addr → Nat → Prop}
/-- what the names of a module are, whatever runs -/
structure Gm (P : Program) (w : World) (K : PySem.W.Frag) (mg : Str → Option Value) (base : Heap) (ι : Addr → Nat → Prop) (km : Nat) (G : GI) (T : Tb) : Prop where
  call : ∀ j x n, lk G.dn j = some (x, n) → ∃ k, k ≤ km ∧ DefAt P w K mg base ι k x n (fun ss o => T.call j ss = some o)
  meth : ∀ m x n, lk G.mn m = some (x, n) → T.mnm m = x ∧ ∃ k, k ≤ km ∧ MethAt P w K mg base ι k (T.cls (T.meth m).1) x n (fun ss o => T.call (T.meth m).2 ss = some o)
  make : ∀ c x n, lk G.cl c = some (x, n) → ∃ k, k + 1 ≤ km ∧ MakeAt P w K mg base ι k x (T.cls c) n (T.init c).2 (fun ss o => T.call (T.init c).1 ss = some o) ∧ ι (T.cls c) (T.full c) ∧ ¬ ι (T.cls c) 0 ∧ (lk G.df c).getD 0 = (T.init c).2.length
  fl : ∀ c f, (c, f) ∈ G.fl → Cls K (T.cls c) ∧ NoAttr K (T.cls c) f
  con : ∀ j x, lk G.cn j = some x → ∃ v u, mg x = some u ∧ RelV v u ∧ ∀ H, Rep K ι H (T.con j) v
  bn : ∀ x ∈ bnames, mg x = none
  ic : ∀ c ∈ G.ic, IsC K (T.cls c)
  iu : ∀ c f, (c, f) ∈ G.fl → ∀ n, ι (T.cls c) n → n = T.full c
  kd : ∀ (j : Nat) (x : Str), lk G.kn j = some x → mg x = some (.ref (T.kd j).1) ∧ KdOk K w ι (T.kd j).1 (T.kd j).2
  fns : T.fns = G.fn.map (·.1)
  kw : ∀ (q : Nat) (x : Str) (ks : List Str), lk G.kw q = some (x, ks) → (∀ i ∈ (T.kw q).2, i < (T.kw q).2.length) ∧ ∃ k f fd ps, k ≤ km ∧ FnOk P w K mg base (L2.CX P w) k f fd ps (spD K ι (T.kw q).2.length (fun ss o => T.call (T.kw q).1 ss = some o)) ∧
    mg x = some (.ref f) ∧ PySem.W.keepIn K (.ref f) = true ∧ KBinds K fd ps ks (kg (T.kw q).2 .none) (kg (T.kw q).2 .non)
  fn : ∀ j n, (j, n) ∈ G.fn → ∃ k fd ps, k ≤ km ∧ FnOk P w K mg base (L2.CX P w) k (T.adr j) fd ps (spD K ι n (fun ss o => T.call j ss = some o)) ∧ PySem.W.keepIn K (.ref (T.adr j)) = true ∧ Binds K fd ps []
theorem Gm.ok {G : GI} {T : Tb} {km : Nat} {X : Cx} (g : Gm X.prog X.w X.K X.mg X.base ι km G T) (r : Room km X.A) : GOk X ι G T :=
  ⟨fun j x n e => let ⟨k, l, d⟩ := g.call j x n e; ⟨k, r.mono l, d⟩, fun j x n e => let ⟨z, k, l, d⟩ := g.meth j x n e; ⟨z, k, r.mono l, d⟩, fun j x n e => let ⟨k, l, d⟩ := g.make j x n e; ⟨k, r.mono l, d⟩, g.fl, g.con, g.bn, by have := r.un; omega, g.ic, g.iu, g.kd, fun j n m => let ⟨k, fd, ps, l, d⟩ := g.fn j n m; ⟨k, fd, ps, r.mono l, d⟩, g.fns, fun q x ks e => let ⟨h, k, f, fd, ps, l, d⟩ := g.kw q x ks e; ⟨h, k, f, fd, ps, r.mono l, d⟩⟩
theorem nox_sts {X : Cx} {Γ : List Slot} {st : List Stmt} {Φ : Ph} (h : Sts X.nox ι Γ st Φ) (hx : Φ.ex = fun _ _ _ => False) : Sts X ι Γ st Φ := fun C σ H tk g =>
  WSs.of (PSs.nox (pss_ws X.nox st)) (h C σ H (by rw [hx]; exact tk_no) g)
/-- THE RULE: a def whose body is the term's -/
theorem def_ok {x qual : Str} {st : Stmt} {f : Addr} {fd : FuncData} {ps : List Str} {km np : Nat} {G : GI} {T : Tb} {F : FD} (Fu : FunA K x qual st f fd) (S : FnScope F.N ps (defScope st)) (g : Gm P w K mg base ι km G T) (ha : ps.length = F.ar) (hN : F.ar ≤ F.N.length)
    (c : chks (chkS G F.N np (defScope st) np) F.body (defBody st) = true) : FnOk P w K mg base (L2.CX P w) (km + 1) f fd ps (spD K ι ps.length (fun ss o => runD T np F ss = some o)) := by
  refine fnd_ok Fu S fun cdv A outer s H E hr Sd ss o h => ?_
  unfold runD at h
  obtain ⟨hl, h⟩ := ite_some h
  obtain ⟨sr, h1, h2⟩ := obind_some h
  have Sd' : DL.Sd (cxOf (L2.CX P w) P w K mg base F.N qual (defScope st) f cdv A outer s H E).nox (defScope st) F.N := ⟨⟨Sd.hsc, Sd.hN, Sd.nd, Sd.calm⟩, Sd.fn⟩
  have body := execs_ok (exS_ok Sd' (Gm.ok (X := (cxOf (L2.CX P w) P w K mg base F.N qual (defScope st) f cdv A outer s H E).nox) g hr) PassesOwn.never np) c h1
  have fin : ∀ Γ : List Slot, Fin (Γ.take F.ar) Γ := fun Γ i m e => by
    rw [List.getElem?_take] at e
    split at e
    · exact e
    · cases e
  cases sr with
  | nx Γ =>
    cases h2
    exact nox_sts (body.mono (fun Γ' z => by rw [z]; exact ⟨rfl, fin _⟩) (fun _ _ z => z.elim) (fun _ z => z.elim) (fun _ z => z.elim) rfl) rfl
  | rt r Γ =>
    cases h2
    exact nox_sts (body.mono (fun Γ' z => z.elim) (fun _ _ ⟨z1, z2⟩ => by rw [z2]; exact ⟨z1, fin _⟩) (fun _ z => z.elim) (fun _ z => z.elim) rfl) rfl
  | bk Γ => cases h2
  | ct Γ => cases h2
end
end DL
/-! DL, part v: all defs of a text together; the law's end. -/
namespace DL
open PySem PySem.Spec L2

noncomputable def callN (np : Nat) (fds : Nat → Option FD) (T0 : Tb) : Nat → Nat → List Slot → Option Out
  | 0, _, _ => none
  | d + 1, j, ss => match fds j with
    | some F => runD { T0 with call := callN np fds T0 d } np F ss
    | none => none
noncomputable def tbN (np : Nat) (fds : Nat → Option FD) (T0 : Tb) (d : Nat) : Tb := { T0 with call := callN np fds T0 d }
theorem callN_succ {np : Nat} {fds : Nat → Option FD} {T0 : Tb} {d j : Nat} {F : FD} (h : fds j = some F) (ss : List Slot) : callN np fds T0 (d + 1) j ss = runD (tbN np fds T0 d) np F ss := by
  show (match fds j with | some F => runD { T0 with call := callN np fds T0 d } np F ss | none => none) = _
  rw [h]
  rfl
section
variable {P : Program} {w : World} {K : PySem.W.Frag} {mg : Str → Option Value} {base : Heap} {ι : Addr → Nat → Prop}
/-- a def's text and its term -/
structure FnD (K : PySem.W.Frag) (G : GI) (np : Nat) (F : FD) (f : Addr) (fd : FuncData) (ps : List Str) : Prop where
  ex : ∃ x qual st, FunA K x qual st f fd ∧ FnScope F.N ps (defScope st) ∧ chks (chkS G F.N np (defScope st) np) F.body (defBody st) = true
  ar : ps.length = F.ar
  le : F.ar ≤ F.N.length
theorem fnD_ok {G : GI} {T : Tb} {np km : Nat} {F : FD} {f : Addr} {fd : FuncData} {ps : List Str} (h : FnD K G np F f fd ps) (g : Gm P w K mg base ι km G T) : FnOk P w K mg base (L2.CX P w) (km + 1) f fd ps (spD K ι F.ar (fun ss o => runD T np F ss = some o)) := by
  obtain ⟨x, qual, st, h1, h2, h3⟩ := h.ex
  rw [← h.ar]
  exact def_ok h1 h2 g h.ar h.le h3
theorem fn_none {k n : Nat} {f : Addr} {fd : FuncData} {ps : List Str} : FnOk P w K mg base (L2.CX P w) k f fd ps (spD K ι n (fun ss o => (none : Option Out) = some o)) :=
  ⟨fun vs H Q E h => (by obtain ⟨_, _, _, z, _⟩ := h; cases z), fun A outer s H args us vs Q E _ _ _ _ h => (by obtain ⟨_, _, _, z, _⟩ := h; cases z)⟩
/-- what the top has left: every def, class, constant by its name -/
structure GF (K : PySem.W.Frag) (w : World) (mg : Str → Option Value) (ι : Addr → Nat → Prop) (G : GI) (np : Nat) (fds : Nat → Option FD) (T0 : Tb) : Prop where
  call : ∀ (j : Nat) (x : Str) (n : Nat), lk G.dn j = some (x, n) → ∃ (F : FD) (f : Addr) (fd : FuncData) (ps : List Str), fds j = some F ∧ FnD K G np F f fd ps ∧ mg x = some (.ref f) ∧ PySem.W.keepIn K (.ref f) = true ∧ Binds K fd ps [] ∧ F.ar = n
  meth : ∀ (m : Nat) (x : Str) (n : Nat), lk G.mn m = some (x, n) → T0.mnm m = x ∧ Cls K (T0.cls (T0.meth m).1) ∧ ∃ (F : FD) (f : Addr) (fd : FuncData) (ps : List Str), fds ((T0.meth m).2) = some F ∧ FnD K G np F f fd ps ∧ Meth K (T0.cls (T0.meth m).1) x f ∧ Binds K fd ps [] ∧ F.ar = n
  make : ∀ (c : Nat) (x : Str) (n : Nat), lk G.cl c = some (x, n) → (∃ (F : FD) (f : Addr) (fd : FuncData) (ps : List Str) (dvV : List V) (ds : List Value), fds ((T0.init c).1) = some F ∧ FnD K G np F f fd ps ∧ Mk K (T0.cls c) f ∧ mg x = some (.ref (T0.cls c)) ∧ Binds K fd ps ds ∧ Vals dvV ds ∧ (∀ H, Reps K ι H (T0.init c).2 dvV) ∧ F.ar = n) ∧
    ι (T0.cls c) (T0.full c) ∧ ¬ ι (T0.cls c) 0 ∧ (lk G.df c).getD 0 = (T0.init c).2.length
  fl : ∀ c f, (c, f) ∈ G.fl → Cls K (T0.cls c) ∧ NoAttr K (T0.cls c) f
  con : ∀ j x, lk G.cn j = some x → ∃ v u, mg x = some u ∧ RelV v u ∧ ∀ H, Rep K ι H (T0.con j) v
  bn : ∀ x ∈ bnames, mg x = none
  ic : ∀ c ∈ G.ic, IsC K (T0.cls c)
  iu : ∀ c f, (c, f) ∈ G.fl → ∀ n, ι (T0.cls c) n → n = T0.full c
  kd : ∀ (j : Nat) (x : Str), lk G.kn j = some x → mg x = some (.ref (T0.kd j).1) ∧ KdOk K w ι (T0.kd j).1 (T0.kd j).2
  fns : T0.fns = G.fn.map (·.1)
  kw : ∀ (q : Nat) (x : Str) (ks : List Str), lk G.kw q = some (x, ks) → (∀ i ∈ (T0.kw q).2, i < (T0.kw q).2.length) ∧ ∃ (F : FD) (f : Addr) (fd : FuncData) (ps : List Str), fds ((T0.kw q).1) = some F ∧ FnD K G np F f fd ps ∧
    mg x = some (.ref f) ∧ PySem.W.keepIn K (.ref f) = true ∧ KBinds K fd ps ks (kg (T0.kw q).2 .none) (kg (T0.kw q).2 .non) ∧ F.ar = (T0.kw q).2.length
  fn : ∀ j n, (j, n) ∈ G.fn → ∃ (F : FD) (fd : FuncData) (ps : List Str), fds j = some F ∧ FnD K G np F (T0.adr j) fd ps ∧ PySem.W.keepIn K (.ref (T0.adr j)) = true ∧ Binds K fd ps [] ∧ F.ar = n
theorem gm_of {G : GI} {np km : Nat} {fds : Nat → Option FD} {T0 : Tb} {call : Nat → List Slot → Option Out} (g : GF K w mg ι G np fds T0)
    (ok : ∀ (j : Nat) (F : FD) (f : Addr) (fd : FuncData) (ps : List Str), fds j = some F → FnD K G np F f fd ps → FnOk P w K mg base (L2.CX P w) km f fd ps (spD K ι F.ar (fun ss o => call j ss = some o))) : Gm P w K mg base ι (km + 1) G { T0 with call := call } := by
  refine ⟨fun j x n e => ?_, fun m x n e => ?_, fun c x n e => ?_, g.fl, g.con, g.bn, g.ic, g.iu, g.kd, g.fns, fun q x ks e => ?_, fun j n m => ?_⟩
  · obtain ⟨F, f, fd, ps, h1, h2, h3, h4, h5, h6⟩ := g.call j x n e
    subst h6
    exact ⟨km, Nat.le_succ _, ⟨f, fd, ps, ok j F f fd ps h1 h2, h3, h4, h5, h2.ar⟩⟩
  · obtain ⟨q, c, F, f, fd, ps, h1, h2, h3, h4, h6⟩ := g.meth m x n e
    subst h6
    exact ⟨q, km, Nat.le_succ _, ⟨⟨f, fd, ps, ok _ F f fd ps h1 h2, h3, h4, h2.ar⟩, c⟩⟩
  · obtain ⟨⟨F, f, fd, ps, dvV, ds, h1, h2, h3, h4, h5, h6, h7, h8⟩, i1, i2, i3⟩ := g.make c x n e
    subst h8
    exact ⟨km, Nat.le_refl _, ⟨f, fd, ps, dvV, ds, ok _ F f fd ps h1 h2, h3, h4, h5, h6, h7, h2.ar⟩, i1, i2, i3⟩
  · obtain ⟨hp, F, f, fd, ps, h1, h2, h3, h4, h5, h6⟩ := g.kw q x ks e
    refine ⟨hp, km, f, fd, ps, Nat.le_succ _, ?_, h3, h4, h5⟩
    show FnOk P w K mg base (L2.CX P w) km f fd ps (spD K ι (T0.kw q).2.length (fun ss o => call (T0.kw q).1 ss = some o))
    rw [← h6]
    exact ok _ F f fd ps h1 h2
  · obtain ⟨F, fd, ps, h1, h2, h3, h4, h5⟩ := g.fn j n m
    subst h5
    exact ⟨km, fd, ps, Nat.le_succ _, ok _ F _ fd ps h1 h2, h3, h4⟩
theorem gm_all {G : GI} {np : Nat} {fds : Nat → Option FD} {T0 : Tb} (g : GF K w mg ι G np fds T0) : ∀ d, Gm P w K mg base ι (2 * d + 1) G (tbN np fds T0 d)
  | 0 => gm_of g fun j F f fd ps _ _ => fn_none
  | d + 1 => by
    have ih := gm_all g d
    refine gm_of g fun j F f fd ps e h => ?_
    have z := (fnD_ok h ih).mono (k := 2 * (d + 1)) (by omega)
    refine z.imp fun vs H Q E h => ?_
    obtain ⟨h1, ss, o, h2, h3⟩ := h
    rw [callN_succ e] at h2
    exact ⟨h1, ss, o, h2, h3⟩
/-- the law's own promise -/
def spLaw (K : PySem.W.Frag) : Sp := fun vs H Q _ => ∃ (a : Addr) (ns : List Int), vs = [.ref a] ∧ FzS K H a (ns.map V.int) ∧ ns.length ≤ 63 ∧ (∀ z ∈ ns, Builtin.Int.intBits z ≤ 1048576) ∧ ∀ H', Q (.bl true) H'
theorem law_ok {G : GI} {np d j : Nat} {fds : Nat → Option FD} {T0 : Tb} {F : FD} {f : Addr} {fd : FuncData} {ps : List Str} (g : GF K w mg ι G np fds T0) (e : fds j = some F) (h : FnD K G np F f fd ps) (h1 : F.ar = 1)
    (run : ∀ ns : List Int, ns.length ≤ 63 → (∀ z ∈ ns, Builtin.Int.intBits z ≤ 1048576) → ∃ fs, callN np fds T0 (d + 1) j [.im (.klst (ns.map D.int))] = some (.ret (.im (.bl true)) fs)) : FnOk P w K mg base (L2.CX P w) (2 * d + 2) f fd ps (spLaw K) := by
  refine (fnD_ok h (gm_all (P := P) (w := w) (base := base) g d)).imp fun vs H Q E hh => ?_
  obtain ⟨a, ns, rfl, h2, h3, h4, h5⟩ := hh
  obtain ⟨fs, hr⟩ := run ns h3 h4
  rw [callN_succ e] at hr
  refine ⟨by rw [h1]; rfl, _, _, hr, args_im (ds := [.klst (ns.map D.int)]) (.cons (.klst h2 reps_ints) .nil), fun v H' hp hv => ?_⟩
  have hv' : Rep K ι H' (.bl true) v := hv
  cases hv'
  exact h5 H'
end
/-- the end of a row -/
theorem walk_law {l : PySem.W.OpenLaw} {n k : Nat} {q : Program} {loose : List Str} {XP : (Str → Option Value) → Heap → Prop} {YP : World → Heap → Prop} {d : DefRec} {K : Params → PySem.W.Frag} {x : Str}
    (hn : l.most = some n) (h63 : n = 63) (hdf : d.params.defaults = []) (hr : Room k callerA)
    (hY : ∀ (w : World) (h : Heap), YP w h → (K w.params).In h)
    (F : ∀ (w : World) (mg : Str → Option Value) (fa : Addr) (h : Heap), (K w.params).In h → h.Ns mainGlobals mg → mg d.name = some (.ref fa) →
      ∃ fd : FuncData, (∀ (s : Shared) (u : Value), BindsTo s fd ⟨[u], []⟩ [(x, u)]) ∧
        ∀ base : Heap, (K w.params).In base → base.Ns mainGlobals mg → FnOk l.prog w (K w.params) mg base (L2.CX l.prog w) k fa fd [x] (spLaw (K w.params))) :
    PySem.W.WalkO q loose XP YP l.row.toRowW d [] (fun f vs => PySem.call f vs) := by
  refine L2.walk_ofB (n := n) (K := K) (CX := fun w => L2.CX l.prog w) (sp := fun w => spLaw (K w.params)) hn (by rw [h63]; decide) hdf hr hY F (fun w H a ns h1 hb hO hS => ?_) fun w H s e s' h => ?_
  · refine ⟨a, ns, rfl, ?_, by omega, hb, fun _ => rfl⟩
    rcases hS with hS | hS
    · rcases hS with hS | hS
      · rcases hO a with z | ⟨o, xs, z⟩
        · rw [z] at hS; cases hS
        · rw [z] at hS; cases hS
      · exact .inl hS
    · exact .inr hS
  · obtain ⟨_, _, _, _, _, _, _, _, _, _, _, _, z⟩ := h
    exact z
end DL
/-! DL, part g2: what k_is reads off the top, and what comes of it. -/
namespace DL
open PySem PySem.Spec L2 PyProof.Rows
/-- a def's object, without defaults -/
def FnF (K : PySem.W.Frag) (x qual : Str) (st : Stmt) (f : Addr) : Prop :=
  ∃ (oc : Value) (od : Option Addr) (kV doc pm : Value) (an : Option Addr) (cdv ct : Value) (osl : Array (Option Value)),
    K.lookup f = some ⟨oc, od, .func (PySem.W.fnOf x qual (defArgs st) (defBody st) (defScope st) .none kV doc pm an cdv ct), osl⟩ ∧ PySem.W.codeIn K cdv qual = true ∧ PySem.W.keepIn K (.ref f) = true
/-- .. with defaults: the tuple of them -/
def FnFd (K : PySem.W.Frag) (x qual : Str) (st : Stmt) (f : Addr) (its : List Value) : Prop :=
  ∃ (oc : Value) (od : Option Addr) (T : Addr) (kV doc pm : Value) (an : Option Addr) (cdv ct : Value) (osl : Array (Option Value)) (o : Obj) (n : Nat),
    K.lookup f = some ⟨oc, od, .func (PySem.W.fnOf x qual (defArgs st) (defBody st) (defScope st) (.ref T) kV doc pm an cdv ct), osl⟩ ∧ PySem.W.codeIn K cdv qual = true ∧ PySem.W.keepIn K (.ref f) = true ∧ K.lookup T = some o ∧ o.data = .seq its.toArray n
section
variable {K : PySem.W.Frag} {w : World} {mg : Str → Option Value} {h : Heap} {ι : Addr → Nat → Prop} {G : GI} {np n : Nat} {F : FD} {x qual : Str} {st : Stmt} {ps : List Str} {f C : Addr}
/-- a def by its name, all told -/
def Row (K : PySem.W.Frag) (mg : Str → Option Value) (G : GI) (np : Nat) (F : FD) (x : Str) (n : Nat) : Prop :=
  ∃ f fd ps, FnD K G np F f fd ps ∧ mg x = some (.ref f) ∧ PySem.W.keepIn K (.ref f) = true ∧ Binds K fd ps [] ∧ F.ar = n
theorem fn_all (hf : FnF K x qual st f) (sc : FnScope F.N ps (defScope st)) (c : chks (chkS G F.N np (defScope st) np) F.body (defBody st) = true) (ar : ps.length = F.ar) (le : F.ar ≤ F.N.length)
    (b : ∀ (kV doc pm : Value) (an : Option Addr) (cdv ct : Value) (us : List Value), us.length = ps.length → bindArgs (PySem.W.fnOf x qual (defArgs st) (defBody st) (defScope st) .none kV doc pm an cdv ct) ⟨us, []⟩ = pure (ps.zip us)) :
    ∃ fd, FnD K G np F f fd ps ∧ PySem.W.keepIn K (.ref f) = true ∧ Binds K fd ps [] := by
  obtain ⟨oc, od, kV, doc, pm, an, cdv, ct, osl, l, cd, k⟩ := hf
  exact ⟨_, ⟨⟨x, qual, st, ⟨oc, od, .none, kV, doc, pm, an, cdv, ct, osl, rfl, l, cd⟩, sc, c⟩, ar, le⟩, k, .all (b kV doc pm an cdv ct)⟩
theorem fn_row (X : K.In h) (N : h.Ns mainGlobals mg) (a : PySem.W.nsIn K mainGlobals x = some (some (.ref f))) (hf : FnF K x x st f) (sc : FnScope F.N ps (defScope st)) (c : chks (chkS G F.N np (defScope st) np) F.body (defBody st) = true) (ar : ps.length = F.ar) (le : F.ar ≤ F.N.length)
    (b : ∀ (kV doc pm : Value) (an : Option Addr) (cdv ct : Value) (us : List Value), us.length = ps.length → bindArgs (PySem.W.fnOf x x (defArgs st) (defBody st) (defScope st) .none kV doc pm an cdv ct) ⟨us, []⟩ = pure (ps.zip us)) (hn : F.ar = n) : Row K mg G np F x n := by
  obtain ⟨fd, h1, h2, h3⟩ := fn_all hf sc c ar le b
  exact ⟨f, fd, ps, h1, PySem.W.mg_of X N a, h2, h3, hn⟩
def CallP (K : PySem.W.Frag) (mg : Str → Option Value) (G : GI) (np : Nat) (fds : Nat → Option FD) (j : Nat) (p : Str × Nat) : Prop := ∃ F, fds j = some F ∧ Row K mg G np F p.1 p.2
/-- a method -/
theorem fn_meth (a : PySem.W.findIn K (.ref C) x = some (some (.ref f))) (i : PySem.W.isFn K (.ref f) = true) (hf : FnF K x qual st f) (sc : FnScope F.N ps (defScope st)) (c : chks (chkS G F.N np (defScope st) np) F.body (defBody st) = true) (ar : ps.length = F.ar) (le : F.ar ≤ F.N.length)
    (b : ∀ (kV doc pm : Value) (an : Option Addr) (cdv ct : Value) (us : List Value), us.length = ps.length → bindArgs (PySem.W.fnOf x qual (defArgs st) (defBody st) (defScope st) .none kV doc pm an cdv ct) ⟨us, []⟩ = pure (ps.zip us)) :
    ∃ f fd ps', FnD K G np F f fd ps' ∧ Meth K C x f ∧ Binds K fd ps' [] := by
  obtain ⟨fd, h1, h2, h3⟩ := fn_all hf sc c ar le b
  exact ⟨f, fd, ps, h1, ⟨a, i, h2⟩, h3⟩
/-- an __init__ without defaults -/
theorem fn_init (mk : PySem.W.makesIn K C = true) (kC : PySem.W.keepIn K (.ref C) = true) (a : PySem.W.findIn K (.ref C) "__init__" = some (some (.ref f))) (i : PySem.W.isFn K (.ref f) = true) (hf : FnF K "__init__" qual st f) (sc : FnScope F.N ps (defScope st)) (c : chks (chkS G F.N np (defScope st) np) F.body (defBody st) = true) (ar : ps.length = F.ar) (le : F.ar ≤ F.N.length)
    (b : ∀ (kV doc pm : Value) (an : Option Addr) (cdv ct : Value) (us : List Value), us.length = ps.length → bindArgs (PySem.W.fnOf "__init__" qual (defArgs st) (defBody st) (defScope st) .none kV doc pm an cdv ct) ⟨us, []⟩ = pure (ps.zip us)) :
    ∃ f fd ps', FnD K G np F f fd ps' ∧ Mk K C f ∧ Binds K fd ps' [] := by
  obtain ⟨fd, h1, h2, h3⟩ := fn_all hf sc c ar le b
  exact ⟨f, fd, ps, h1, ⟨mk, a, i, kC⟩, h3⟩
/-- .. with defaults, the last ones of which fill up -/
theorem fn_initd {its : List Value} (mk : PySem.W.makesIn K C = true) (kC : PySem.W.keepIn K (.ref C) = true) (a : PySem.W.findIn K (.ref C) "__init__" = some (some (.ref f))) (i : PySem.W.isFn K (.ref f) = true) (hf : FnFd K "__init__" qual st f its) (sc : FnScope F.N ps (defScope st)) (c : chks (chkS G F.N np (defScope st) np) F.body (defBody st) = true) (ar : ps.length = F.ar) (le : F.ar ≤ F.N.length) (ds : List Value) (m : Nat) (hm : m + ds.length = ps.length)
    (b : ∀ (T : Addr) (kV doc pm : Value) (an : Option Addr) (cdv ct : Value) (us : List Value), us.length = m → ∃ k, bindArgs (PySem.W.fnOf "__init__" qual (defArgs st) (defBody st) (defScope st) (.ref T) kV doc pm an cdv ct) ⟨us, []⟩ = seqItems? (.ref T) >>= k ∧ k (some its.toArray) = pure (ps.zip (us ++ ds))) :
    ∃ f fd ps', FnD K G np F f fd ps' ∧ Mk K C f ∧ Binds K fd ps' ds := by
  obtain ⟨oc, od, T, kV, doc, pm, an, cdv, ct, osl, o, n, l, cd, k, lo, od2⟩ := hf
  refine ⟨f, _, ps, ⟨⟨_, qual, st, ⟨oc, od, .ref T, kV, doc, pm, an, cdv, ct, osl, rfl, l, cd⟩, sc, c⟩, ar, le⟩, ⟨mk, a, i, kC⟩, fun s us I hl => ?_⟩
  obtain ⟨k2, e1, e2⟩ := b T kV doc pm an cdv ct us (by rw [List.length_append] at hl; omega)
  exact PySem.W.binds_K I rfl lo od2 e1 e2
/-- a table, row by row -/
inductive AllS {α : Type} (P : Nat → α → Prop) : List (Nat × α) → Prop
  | nil : AllS P []
  | cons {i : Nat} {a : α} {l : List (Nat × α)} : P i a → AllS P l → AllS P ((i, a) :: l)
theorem AllS.at {α : Type} {P : Nat → α → Prop} : ∀ {l : List (Nat × α)}, AllS P l → ∀ (i : Nat) (a : α), lk l i = some a → P i a
  | _, .nil, i, a, e => by cases e
  | _, .cons (i := j) (a := b) h t, i, a, e => by
    unfold lk at e
    split at e
    · rename_i q
      cases e
      exact q ▸ h
    · exact t.at i a e
/-- a list, item by item -/
inductive AllI {α : Type} (P : Nat → α → Prop) : Nat → List α → Prop
  | nil {k : Nat} : AllI P k []
  | cons {k : Nat} {a : α} {l : List α} : P k a → AllI P (k + 1) l → AllI P k (a :: l)
theorem AllI.get {α : Type} {P : Nat → α → Prop} : ∀ {k : Nat} {l : List α}, AllI P k l → ∀ (i : Nat) (a : α), l[i]? = some a → P (k + i) a
  | _, _, .nil, i, a, e => by simp at e
  | k, _, .cons h _, 0, a, e => by simp at e; subst e; exact h
  | k, _, .cons _ t, i + 1, a, e => by
    have := AllI.get t i a (by simpa using e)
    rwa [Nat.add_assoc, Nat.add_comm 1 i] at this
theorem AllI.at {α : Type} {P : Nat → α → Prop} {l : List α} (h : AllI P 0 l) (i : Nat) (a : α) (e : l[i]? = some a) : P i a := by
  have := h.get i a e
  rwa [Nat.zero_add] at this
theorem AllI.mem {α : Type} {P : α → Prop} : ∀ {k : Nat} {l : List α}, AllI (fun _ a => P a) k l → ∀ a ∈ l, P a
  | _, _, .nil, a, m => absurd m List.not_mem_nil
  | _, _, .cons h t, a, m => by
    rcases List.mem_cons.mp m with q | q
    · subst q; exact h
    · exact AllI.mem t a q
end
section
variable {K : PySem.W.Frag} {w : World} {mg : Str → Option Value} {ι : Addr → Nat → Prop} {G : GI} {np : Nat} {fds : Nat → Option FD} {T0 : Tb}
def MethP (K : PySem.W.Frag) (G : GI) (np : Nat) (fds : Nat → Option FD) (T0 : Tb) (m : Nat) (p : Str × Nat) : Prop :=
  T0.mnm m = p.1 ∧ Cls K (T0.cls (T0.meth m).1) ∧ ∃ (F : FD) (f : Addr) (fd : FuncData) (ps : List Str), fds ((T0.meth m).2) = some F ∧ FnD K G np F f fd ps ∧ Meth K (T0.cls (T0.meth m).1) p.1 f ∧ Binds K fd ps [] ∧ F.ar = p.2
def MakeP (K : PySem.W.Frag) (mg : Str → Option Value) (ι : Addr → Nat → Prop) (G : GI) (np : Nat) (fds : Nat → Option FD) (T0 : Tb) (c : Nat) (p : Str × Nat) : Prop :=
  (∃ (F : FD) (f : Addr) (fd : FuncData) (ps : List Str) (dvV : List V) (ds : List Value), fds ((T0.init c).1) = some F ∧ FnD K G np F f fd ps ∧ Mk K (T0.cls c) f ∧ mg p.1 = some (.ref (T0.cls c)) ∧ Binds K fd ps ds ∧ Vals dvV ds ∧ (∀ H, Reps K ι H (T0.init c).2 dvV) ∧ F.ar = p.2) ∧
    ι (T0.cls c) (T0.full c) ∧ ¬ ι (T0.cls c) 0 ∧ (lk G.df c).getD 0 = (T0.init c).2.length
def ConP (K : PySem.W.Frag) (mg : Str → Option Value) (ι : Addr → Nat → Prop) (T0 : Tb) (j : Nat) (x : Str) : Prop := ∃ v u, mg x = some u ∧ RelV v u ∧ ∀ H, Rep K ι H (T0.con j) v
def KdP (K : PySem.W.Frag) (w : World) (mg : Str → Option Value) (ι : Addr → Nat → Prop) (T0 : Tb) (j : Nat) (x : Str) : Prop := mg x = some (.ref (T0.kd j).1) ∧ KdOk K w ι (T0.kd j).1 (T0.kd j).2
def KwP (K : PySem.W.Frag) (mg : Str → Option Value) (G : GI) (np : Nat) (fds : Nat → Option FD) (T0 : Tb) (q : Nat) (p : Str × List Str) : Prop :=
  (∀ i ∈ (T0.kw q).2, i < (T0.kw q).2.length) ∧ ∃ (F : FD) (f : Addr) (fd : FuncData) (ps : List Str), fds ((T0.kw q).1) = some F ∧ FnD K G np F f fd ps ∧
    mg p.1 = some (.ref f) ∧ PySem.W.keepIn K (.ref f) = true ∧ KBinds K fd ps p.2 (kg (T0.kw q).2 .none) (kg (T0.kw q).2 .non) ∧ F.ar = (T0.kw q).2.length
def FnP (K : PySem.W.Frag) (G : GI) (np : Nat) (fds : Nat → Option FD) (T0 : Tb) (p : Nat × Nat) : Prop := ∃ (F : FD) (fd : FuncData) (ps : List Str), fds (p.1) = some F ∧ FnD K G np F (T0.adr p.1) fd ps ∧ PySem.W.keepIn K (.ref (T0.adr p.1)) = true ∧ Binds K fd ps [] ∧ F.ar = p.2
theorem gf_of (call : AllS (CallP K mg G np fds) G.dn)
    (meth : AllS (MethP K G np fds T0) G.mn) (make : AllS (MakeP K mg ι G np fds T0) G.cl) (fl : AllI (fun _ (p : Nat × Str) => (Cls K (T0.cls p.1) ∧ NoAttr K (T0.cls p.1) p.2) ∧ ∀ n, ι (T0.cls p.1) n → n = T0.full p.1) 0 G.fl) (con : AllS (ConP K mg ι T0) G.cn) (bn : ∀ x ∈ bnames, mg x = none)
    (ic : AllI (fun _ c => IsC K (T0.cls c)) 0 G.ic) (kd : AllS (KdP K w mg ι T0) G.kn) (fns : T0.fns = G.fn.map (·.1)) (kw : AllS (KwP K mg G np fds T0) G.kw) (fn : AllI (fun _ p => FnP K G np fds T0 p) 0 G.fn) : GF K w mg ι G np fds T0 :=
  ⟨fun j x n e => (call.at j (x, n) e).elim fun F h => h.2.elim fun f q => q.elim fun fd q => q.elim fun ps q => ⟨F, f, fd, ps, h.1, q⟩, fun m x n e => meth.at m (x, n) e, fun c x n e => make.at c (x, n) e, fun c f m => (AllI.mem (P := fun (p : Nat × Str) => (Cls K (T0.cls p.1) ∧ NoAttr K (T0.cls p.1) p.2) ∧ ∀ n, ι (T0.cls p.1) n → n = T0.full p.1) fl (c, f) m).1, fun j x e => con.at j x e, bn, fun c m => AllI.mem (P := fun c => IsC K (T0.cls c)) ic c m,
    fun c f m => (AllI.mem (P := fun (p : Nat × Str) => (Cls K (T0.cls p.1) ∧ NoAttr K (T0.cls p.1) p.2) ∧ ∀ n, ι (T0.cls p.1) n → n = T0.full p.1) fl (c, f) m).2, fun j x e => kd.at j x e, fns, fun q x ks e => kw.at q (x, ks) e, fun j n m => AllI.mem (P := fun p => FnP K G np fds T0 p) fn (j, n) m⟩
theorem kbinds_of {fd : FuncData} {ps ks : List Str} {perm : List Nat} (hp : ∀ i ∈ perm, i < perm.length) (hl : 0 < perm.length) (hq : perm.length = ps.length)
    (b : ∀ ws : List Value, ws.length = perm.length → bindArgs fd ⟨[], ks.zip ws⟩ = pure (ps.zip (perm.map fun i => ws.getD i .none))) : KBinds K fd ps ks (kg perm .none) (kg perm .non) := by
  refine ⟨fun s us ws I h => ?_, fun {vs us zs ws} r1 r2 => ?_⟩
  · unfold kg at h ⊢
    split at h
    · rename_i q
      obtain ⟨q1, q2⟩ := q
      have e : us = [] := List.eq_nil_of_length_eq_zero q1
      subst e
      rw [if_pos ⟨rfl, q2⟩]
      exact .of_eq (b ws q2)
    · rw [List.length_nil] at h; omega
  · unfold kg
    have l1 : vs.length = us.length := r1.length
    have l2 : zs.length = ws.length := r2.length
    rw [l1, l2]
    split
    · rename_i q
      have : ∀ l : List Nat, (∀ i ∈ l, i < perm.length) → Vals (l.map fun i => zs.getD i .non) (l.map fun i => ws.getD i .none) := by
        intro l
        induction l with
        | nil => intro _; exact .nil
        | cons i l ih =>
          intro hi
          have h1 : i < zs.length := by rw [l2, q.2]; exact hi i List.mem_cons_self
          obtain ⟨u, e1, e2⟩ := r2.get (List.getElem?_eq_getElem h1)
          refine .cons ?_ (ih fun j m => hi j (List.mem_cons_of_mem _ m))
          show RelV (zs.getD i .non) (ws.getD i .none)
          rw [List.getD_eq_getElem?_getD, List.getD_eq_getElem?_getD, List.getElem?_eq_getElem h1, e1]
          exact e2
      exact this perm hp
    · exact .nil
end
/-! a written value as data -/
mutual
inductive KRep (K : PySem.W.Frag) : D → Value → Prop
  | non : KRep K .non .none
  | bl {b : Bool} : KRep K (.bl b) (.bool b)
  | int {i : Int} {t : Tok} : KRep K (.int i) (.int i t)
  | str {s : Str} {t : Tok} : KRep K (.str s) (.str s t)
  | ref {a : Addr} : KRep K (.ref a) (.ref a)
  | tup {ds : List D} {a : Addr} {od : Option Addr} {its : Array Value} {n : Nat} {osl : Array (Option Value)} : K.lookup a = some ⟨.type "tuple", od, .seq its n, osl⟩ → its.size ≤ sizeLine → KReps K ds its.toList → KRep K (.tup ds) (.ref a)
inductive KReps (K : PySem.W.Frag) : List D → List Value → Prop
  | nil : KReps K [] []
  | cons {d : D} {u : Value} {ds : List D} {us : List Value} : KRep K d u → KReps K ds us → KReps K (d :: ds) (u :: us)
end
mutual
theorem krep_ok {K : PySem.W.Frag} {ι : Addr → Nat → Prop} : ∀ {d : D} {u : Value}, KRep K d u → ∃ v, RelV v u ∧ ∀ H, Rep K ι H d v
  | _, _, .non => ⟨.non, rfl, fun _ => .non⟩
  | _, _, .bl => ⟨.bl _, rfl, fun _ => .bl _⟩
  | _, _, .int => ⟨.int _, ⟨_, rfl⟩, fun _ => .int _⟩
  | _, _, .str => ⟨.str _, ⟨_, rfl⟩, fun _ => .str _⟩
  | _, _, .ref => ⟨.ref _, rfl, fun _ => .ref _⟩
  | _, _, .tup l z h => by
    obtain ⟨vs, h1, h2⟩ := kreps_ok (ι := ι) h
    exact ⟨.ref _, rfl, fun H => .tup (.inr ⟨_, _, _, l, rfl, rfl, z, h1⟩) (h2 H)⟩
theorem kreps_ok {K : PySem.W.Frag} {ι : Addr → Nat → Prop} : ∀ {ds : List D} {us : List Value}, KReps K ds us → ∃ vs, Vals vs us ∧ ∀ H, Reps K ι H ds vs
  | _, _, .nil => ⟨[], .nil, fun _ => .nil⟩
  | _, _, .cons h t => by
    obtain ⟨v, h1, h2⟩ := krep_ok (ι := ι) h
    obtain ⟨vs, h3, h4⟩ := kreps_ok (ι := ι) t
    exact ⟨v :: vs, .cons h1 h3, fun H => .cons (h2 H) (h4 H)⟩
end
theorem co_str {K : PySem.W.Frag} {x s : Str} {u : Value} (a : PySem.W.nsIn K mainGlobals x = some (some u)) (e : ∃ t, u = .str s t) : ∃ t, PySem.W.nsIn K mainGlobals x = some (some (.str s t)) := e.elim fun t q => ⟨t, by rw [← q]; exact a⟩
theorem co_int {K : PySem.W.Frag} {x : Str} {i : Int} {u : Value} (a : PySem.W.nsIn K mainGlobals x = some (some u)) (e : ∃ t, u = .int i t) : ∃ t, PySem.W.nsIn K mainGlobals x = some (some (.int i t)) := e.elim fun t q => ⟨t, by rw [← q]; exact a⟩
theorem kd_mk {K : PySem.W.Frag} {w : World} {ι : Addr → Nat → Prop} {x : Str} {d : Addr} {es : Array DictEntry} {n : Nat} {kvs : List (Str × D)} (a : PySem.W.nsIn K mainGlobals x = some (some (.ref d))) (l : K.lookup d = some ⟨.type "dict", none, .dict es n, #[]⟩)
    (lit : PySem.W.KeysLit w.params es.toList) (low : (d == sysModules) = false) (en : Ents K ι es.toList kvs) (nd : (kvs.map (·.1)).Nodup) : PySem.W.nsIn K mainGlobals x = some (some (.ref d)) ∧ KdOk K w ι d kvs := ⟨a, ⟨⟨es, n, ⟨l, lit, low⟩, en⟩, nd⟩⟩
section
variable {K : PySem.W.Frag} {x qual : Str} {st : Stmt} {f C : Addr} {oc : Value} {od : Option Addr} {kV doc pm : Value} {an : Option Addr} {cdv ct : Value} {osl : Array (Option Value)}
theorem row_mk (a : PySem.W.nsIn K mainGlobals x = some (some (.ref f))) (l : K.lookup f = some ⟨oc, od, .func (PySem.W.fnOf x qual (defArgs st) (defBody st) (defScope st) .none kV doc pm an cdv ct), osl⟩) (c : PySem.W.codeIn K cdv qual = true) (k : PySem.W.keepIn K (.ref f) = true) :
    ∃ f, PySem.W.nsIn K mainGlobals x = some (some (.ref f)) ∧ FnF K x qual st f := ⟨f, a, oc, od, kV, doc, pm, an, cdv, ct, osl, l, c, k⟩
theorem rowv_mk (a : PySem.W.nsIn K mainGlobals x = some (some (.ref f))) (l : K.lookup f = some ⟨oc, od, .func (PySem.W.fnOf x qual (defArgs st) (defBody st) (defScope st) .none kV doc pm an cdv ct), osl⟩) (c : PySem.W.codeIn K cdv qual = true) (k : PySem.W.keepIn K (.ref f) = true) :
    PySem.W.nsIn K mainGlobals x = some (some (.ref f)) ∧ FnF K x qual st f := ⟨a, oc, od, kV, doc, pm, an, cdv, ct, osl, l, c, k⟩
theorem meth_mk (a : PySem.W.findIn K (.ref C) x = some (some (.ref f))) (i : PySem.W.isFn K (.ref f) = true) (l : K.lookup f = some ⟨oc, od, .func (PySem.W.fnOf x qual (defArgs st) (defBody st) (defScope st) .none kV doc pm an cdv ct), osl⟩) (c : PySem.W.codeIn K cdv qual = true) (k : PySem.W.keepIn K (.ref f) = true) :
    ∃ f, PySem.W.findIn K (.ref C) x = some (some (.ref f)) ∧ PySem.W.isFn K (.ref f) = true ∧ FnF K x qual st f := ⟨f, a, i, oc, od, kV, doc, pm, an, cdv, ct, osl, l, c, k⟩
theorem initd_mk {T : Addr} {x0 x1 : Value} {oc2 : Value} {od2 : Option Addr} {n : Nat} {sl2 : Array (Option Value)} {s0 : Str} {i1 : Int} {t0 t1 : Tok} (a : PySem.W.findIn K (.ref C) x = some (some (.ref f))) (i : PySem.W.isFn K (.ref f) = true) (l : K.lookup f = some ⟨oc, od, .func (PySem.W.fnOf x qual (defArgs st) (defBody st) (defScope st) (.ref T) kV doc pm an cdv ct), osl⟩) (c : PySem.W.codeIn K cdv qual = true) (k : PySem.W.keepIn K (.ref f) = true)
    (lo : K.lookup T = some ⟨oc2, od2, .seq #[x0, x1] n, sl2⟩) (e0 : x0 = .str s0 t0) (e1 : x1 = .int i1 t1) : ∃ f t0 t1, PySem.W.findIn K (.ref C) x = some (some (.ref f)) ∧ PySem.W.isFn K (.ref f) = true ∧ FnFd K x qual st f [.str s0 t0, .int i1 t1] := by
  subst e0 e1
  exact ⟨f, t0, t1, a, i, oc, od, T, kV, doc, pm, an, cdv, ct, osl, _, n, l, c, k, lo, rfl⟩
theorem init2_mk {T : Addr} {x0 x1 : Value} {oc2 : Value} {od2 : Option Addr} {n : Nat} {sl2 : Array (Option Value)} (a : PySem.W.findIn K (.ref C) x = some (some (.ref f))) (i : PySem.W.isFn K (.ref f) = true) (l : K.lookup f = some ⟨oc, od, .func (PySem.W.fnOf x qual (defArgs st) (defBody st) (defScope st) (.ref T) kV doc pm an cdv ct), osl⟩) (c : PySem.W.codeIn K cdv qual = true) (k : PySem.W.keepIn K (.ref f) = true)
    (lo : K.lookup T = some ⟨oc2, od2, .seq #[x0, x1] n, sl2⟩) : FnFd K x qual st f [x0, x1] ∧ PySem.W.findIn K (.ref C) x = some (some (.ref f)) ∧ PySem.W.isFn K (.ref f) = true := ⟨⟨oc, od, T, kV, doc, pm, an, cdv, ct, osl, _, n, l, c, k, lo, rfl⟩, a, i⟩
end
end DL
/-! Rows as words: rounds, moves, turns, rotations. Plain mathematics. -/
namespace WD
variable {α : Type} [Inhabited α]

/-- n items by their places -/
def mk {α : Type} (n : Nat) (f : Nat → α) : List α := (List.range n).map f
/-- the item at any spot of the row with this round -/
def thr (w : List α) (i : Int) : α := w.getD (i % (w.length : Int)).toNat default
@[simp] theorem mk_length {α : Type} (n : Nat) (f : Nat → α) : (mk n f).length = n := by simp [mk]
theorem mk_get {α : Type} {n : Nat} {f : Nat → α} {i : Nat} (h : i < n) : (mk n f)[i]? = some (f i) := by simp [mk, h]
theorem mk_congr {α : Type} {n : Nat} {f g : Nat → α} (h : ∀ i, i < n → f i = g i) : mk n f = mk n g := by
  unfold mk
  exact List.map_congr_left fun i hi => h i (List.mem_range.mp hi)
theorem mk_map {α β : Type} (n : Nat) (f : Nat → α) (g : α → β) : (mk n f).map g = mk n (fun i => g (f i)) := by simp [mk, Function.comp_def]
theorem thr_of {w : List α} {i : Nat} (h : i < w.length) : thr w (i : Int) = w[i] := by
  unfold thr
  have e : ((i : Int) % (w.length : Int)) = i := Int.emod_eq_of_lt (by omega) (by omega)
  rw [e, Int.toNat_natCast, List.getD_eq_getElem?_getD, List.getElem?_eq_getElem h]
  rfl
theorem thr_get {w : List α} {i : Nat} (h : i < w.length) : w[i]? = some (thr w (i : Int)) := by rw [thr_of h, List.getElem?_eq_getElem h]
theorem thr_mod (w : List α) (i : Int) : thr w (i % (w.length : Int)) = thr w i := by unfold thr; rw [Int.emod_emod_of_dvd _ (Int.dvd_refl _)]
theorem thr_eq {w : List α} {i j : Int} (h : i % (w.length : Int) = j % (w.length : Int)) : thr w i = thr w j := by unfold thr; rw [h]
theorem thr_get' {w : List α} (h : 0 < w.length) (i : Int) : w[(i % (w.length : Int)).toNat]? = some (thr w i) := by
  have h1 := Int.emod_nonneg i (show (w.length : Int) ≠ 0 by omega)
  have h2 := Int.emod_lt_of_pos i (show (0 : Int) < w.length by omega)
  rw [← thr_mod, thr_get (by omega)]
  congr 2
  omega
theorem thr_add_mul (w : List α) (i k : Int) : thr w (i + (w.length : Int) * k) = thr w i := by
  apply thr_eq
  rw [Int.add_mul_emod_self_left]
theorem ext_thr {w v : List α} (hl : w.length = v.length) (h : ∀ i : Int, thr w i = thr v i) : w = v := by
  apply List.ext_getElem hl
  intro i h1 h2
  rw [← thr_of h1, ← thr_of h2]
  exact h i
theorem ext_nat {w v : List α} (hl : w.length = v.length) (h : ∀ i : Nat, i < w.length → thr w i = thr v i) : w = v := by
  apply List.ext_getElem hl
  intro i h1 h2
  rw [← thr_of h1, ← thr_of h2]
  exact h i h1
theorem mk_self (w : List α) : mk w.length (fun i => thr w (i : Int)) = w := by
  apply List.ext_getElem (by simp)
  intro i h1 h2
  simp only [mk, List.getElem_map, List.getElem_range]
  exact thr_of h2
theorem mk_thr {n : Nat} {f : Nat → α} (hn : 0 < n) (i : Int) : thr (mk n f) i = f (i % (n : Int)).toNat := by
  have h1 := Int.emod_nonneg i (show (n : Int) ≠ 0 by omega)
  have h2 := Int.emod_lt_of_pos i (show (0 : Int) < n by omega)
  unfold thr
  rw [List.getD_eq_getElem?_getD, mk_length, mk_get (by omega)]
  rfl
/-! ### rounds -/
def Per (w : List α) (d : Int) : Prop := ∀ i : Int, thr w (i + d) = thr w i
theorem per_len (w : List α) : Per w w.length := fun i => by
  have := thr_add_mul w i 1
  rwa [Int.mul_one] at this
theorem Per.mul {w : List α} {d : Int} (h : Per w d) (i : Int) (k : Nat) : thr w (i + d * k) = thr w i := by
  induction k with
  | zero => simp
  | succ k ih =>
    have e : i + d * ((k + 1 : Nat) : Int) = (i + d * k) + d := by
      rw [Int.natCast_succ, Int.mul_add, Int.mul_one, Int.add_assoc]
    rw [e, h, ih]
theorem Per.neg {w : List α} {d : Int} (h : Per w d) : Per w (-d) := fun i => by
  have := h (i + -d)
  rw [Int.add_assoc, Int.add_left_neg, Int.add_zero] at this
  exact this.symm
theorem Per.mulz {w : List α} {d : Int} (h : Per w d) (i k : Int) : thr w (i + d * k) = thr w i := by
  rcases Int.eq_nat_or_neg k with ⟨m, rfl | rfl⟩
  · exact h.mul i m
  · have := h.neg.mul i m
    rwa [Int.neg_mul, ← Int.mul_neg] at this
theorem Per.mod {w : List α} {d : Int} (h : Per w d) (i : Int) : thr w (i % d) = thr w i := by
  have e : i % d + d * (i / d) = i := Int.emod_add_mul_ediv i d
  have := h.mulz (i % d) (i / d)
  rw [e] at this
  exact this.symm
section
variable [DecidableEq α]
def PerB (w : List α) (d : Nat) : Bool := decide (w.drop d = w.take (w.length - d))
theorem perB_iff {w : List α} {d : Nat} (hd : 0 < d) (hdvd : d ∣ w.length) (hn : 0 < w.length) : PerB w d = true ↔ Per w d := by
  obtain ⟨k, hk⟩ := hdvd
  have hdn : d ≤ w.length := Nat.le_of_dvd hn ⟨k, hk⟩
  unfold PerB
  rw [decide_eq_true_iff]
  constructor
  · intro h
    have step : ∀ i : Nat, i + d < w.length → thr w ((i + d : Nat) : Int) = thr w (i : Int) := by
      intro i hi
      have e : (w.drop d)[i]? = (w.take (w.length - d))[i]? := by rw [h]
      rw [List.getElem?_drop, List.getElem?_take_of_lt (by omega)] at e
      rw [Nat.add_comm d i, thr_get hi, thr_get (show i < w.length by omega)] at e
      exact Option.some.inj e
    have many : ∀ (m i : Nat), i + m * d < w.length → thr w ((i + m * d : Nat) : Int) = thr w (i : Int) := by
      intro m
      induction m with
      | zero => intro i _; simp
      | succ m ih =>
        intro i hi
        have e : i + (m + 1) * d = (i + m * d) + d := by rw [Nat.succ_mul, Nat.add_assoc]
        rw [e] at hi ⊢
        rw [step _ hi, ih i (by omega)]
    intro i
    have h1 := Int.emod_nonneg i (show (w.length : Int) ≠ 0 by omega)
    have h2 := Int.emod_lt_of_pos i (show (0 : Int) < w.length by omega)
    obtain ⟨r, hr⟩ := Int.eq_ofNat_of_zero_le h1
    rw [← thr_mod w i, ← thr_mod w (i + d), Int.add_emod, hr]
    have er : ((r : Int) + (d : Int) % (w.length : Int)) % (w.length : Int) = ((r : Int) + d) % (w.length : Int) := by rw [Int.add_emod_emod]
    have er' : ((r : Int) + (d : Int) % (w.length : Int)) % (w.length : Int) = ((r : Int) + d) % (w.length : Int) := er
    rw [er', thr_mod]
    by_cases q : r + d < w.length
    · have := step r q
      rw [Int.natCast_add] at this
      exact this
    · -- r + d - n, then up to r by d
      have hr' : r < w.length := by omega
      have e1 : thr w ((r : Int) + d) = thr w ((r + d - w.length : Nat) : Int) := by
        apply thr_eq
        have : ((r : Int) + d) = ((r + d - w.length : Nat) : Int) + (w.length : Int) * 1 := by omega
        rw [this, Int.add_mul_emod_self_left]
      rw [e1]
      have e2 : r = (r + d - w.length) + (k - 1) * d := by
        have : (k - 1) * d = w.length - d := by rw [hk, Nat.sub_mul, Nat.one_mul, Nat.mul_comm]
        omega
      have := many (k - 1) (r + d - w.length) (by omega)
      rw [← e2] at this
      exact this.symm
  · intro h
    apply List.ext_getElem?
    intro i
    rw [List.getElem?_drop]
    by_cases q : i < w.length - d
    · rw [List.getElem?_take_of_lt q, thr_get (show d + i < w.length by omega), thr_get (show i < w.length by omega)]
      have := h i
      rw [Nat.add_comm d i, Int.natCast_add, this]
    · rw [List.getElem?_eq_none (by omega), List.getElem?_eq_none (by rw [List.length_take]; omega)]
/-- the least round by going through them -/
def lrnd (w : List α) : Nat := ((mk (w.length - 1) (fun i => i + 1)).find? fun d => decide (w.length % d = 0) && PerB w d).getD w.length
theorem mem_mk {α : Type} {n : Nat} {f : Nat → α} {x : α} : x ∈ mk n f ↔ ∃ i, i < n ∧ f i = x := by
  unfold mk
  rw [List.mem_map]
  constructor
  · rintro ⟨i, hi, e⟩; exact ⟨i, List.mem_range.mp hi, e⟩
  · rintro ⟨i, hi, e⟩; exact ⟨i, List.mem_range.mpr hi, e⟩
theorem find_first {p : Nat → Bool} : ∀ {n k : Nat} {d : Nat}, ((List.range' k n).find? p) = some d → ∀ e, k ≤ e → e < d → p e = false
  | 0, k, d, h => by simp at h
  | n + 1, k, d, h => by
    rw [List.range'_succ, List.find?_cons] at h
    intro e h1 h2
    split at h
    · cases h; omega
    · rename_i q
      rcases Nat.lt_or_ge k e with z | z
      · exact find_first h e (by omega) h2
      · have : e = k := by omega
        subst this
        simpa using q
theorem mk_range' (n : Nat) : mk n (fun i => i + 1) = List.range' 1 n := by
  unfold mk
  rw [List.range'_eq_map_range]
  apply List.map_congr_left
  intro a _
  omega
theorem lrnd_spec {w : List α} (hn : 0 < w.length) : 0 < lrnd w ∧ lrnd w ∣ w.length ∧ Per w (lrnd w) ∧ ∀ d, 0 < d → d ∣ w.length → Per w d → lrnd w ≤ d := by
  unfold lrnd
  rw [mk_range']
  cases h : (List.range' 1 (w.length - 1)).find? fun d => decide (w.length % d = 0) && PerB w d with
  | none =>
    rw [Option.getD_none]
    refine ⟨hn, Nat.dvd_refl _, per_len w, fun d h1 h2 h3 => ?_⟩
    rcases Nat.lt_or_ge d w.length with q | q
    · have := List.find?_eq_none.mp h d (by rw [List.mem_range']; exact ⟨d - 1, by omega, by omega⟩)
      simp only [Bool.and_eq_true, decide_eq_true_eq, not_and] at this
      exact absurd ((perB_iff h1 h2 hn).mpr h3) (this (Nat.mod_eq_zero_of_dvd h2))
    · exact q
  | some d =>
    rw [Option.getD_some]
    have h1 := List.find?_some h
    have h2 := List.mem_of_find?_eq_some h
    rw [List.mem_range'] at h2
    obtain ⟨i, hi, rfl⟩ := h2
    simp only [Bool.and_eq_true, decide_eq_true_eq] at h1
    have hd := Nat.dvd_of_mod_eq_zero h1.1
    refine ⟨by omega, hd, (perB_iff (by omega) hd hn).mp h1.2, fun d h4 h5 h6 => ?_⟩
    rcases Nat.lt_or_ge d (1 + 1 * i) with q | q
    · have := find_first h d (by omega) q
      rw [(perB_iff h4 h5 hn).mpr h6, Nat.mod_eq_zero_of_dvd h5] at this
      simp at this
    · exact q
theorem lrnd_le {w : List α} (hn : 0 < w.length) : lrnd w ≤ w.length := Nat.le_of_dvd hn (lrnd_spec hn).2.1
/-- a word that is a round itself -/
def Prim (w : List α) : Prop := 0 < w.length ∧ lrnd w = w.length
theorem prim_of {w v : List α} (hl : v.length = w.length) (h : ∀ d : Int, Per v d → Per w d) (hw : Prim w) : Prim v := by
  have hn : 0 < v.length := by rw [hl]; exact hw.1
  refine ⟨hn, ?_⟩
  obtain ⟨h1, h2, h3, _⟩ := lrnd_spec hn
  have := (lrnd_spec hw.1).2.2.2 (lrnd v) h1 (hl ▸ h2) (h _ h3)
  have l := lrnd_le hn
  rw [hw.2] at this
  omega
/-! ### moved, turned -/
def moved (w : List α) (by_ : Int) : List α := mk w.length (fun i => thr w ((i : Int) - by_))
def turned (w : List α) : List α := mk w.length (fun i => thr w (-(i : Int)))
omit [DecidableEq α] in
@[simp] theorem moved_length (w : List α) (k : Int) : (moved w k).length = w.length := by simp [moved]
omit [DecidableEq α] in
@[simp] theorem turned_length (w : List α) : (turned w).length = w.length := by simp [turned]
omit [DecidableEq α] in
theorem thr_moved {w : List α} (hn : 0 < w.length) (k i : Int) : thr (moved w k) i = thr w (i - k) := by
  unfold moved
  rw [mk_thr hn]
  apply thr_eq
  have h1 := Int.emod_nonneg i (show (w.length : Int) ≠ 0 by omega)
  rw [Int.toNat_of_nonneg h1, Int.emod_sub_emod]
omit [DecidableEq α] in
theorem thr_turned {w : List α} (hn : 0 < w.length) (i : Int) : thr (turned w) i = thr w (-i) := by
  unfold turned
  rw [mk_thr hn]
  apply thr_eq
  have h1 := Int.emod_nonneg i (show (w.length : Int) ≠ 0 by omega)
  rw [Int.toNat_of_nonneg h1]
  have := Int.sub_emod 0 i w.length
  have := Int.sub_emod 0 (i % w.length) w.length
  simp only [Int.zero_sub, Int.emod_emod_of_dvd, Int.dvd_refl] at *
  omega
theorem prim_moved {w : List α} (hw : Prim w) (k : Int) : Prim (moved w k) := by
  refine prim_of (moved_length w k) (fun d h i => ?_) hw
  have := h (i + k)
  rw [thr_moved hw.1, thr_moved hw.1] at this
  have e1 : i + k + d - k = i + d := by omega
  have e2 : i + k - k = i := by omega
  rwa [e1, e2] at this
theorem prim_turned {w : List α} (hw : Prim w) : Prim (turned w) := by
  refine prim_of (turned_length w) (fun d h i => ?_) hw
  have := h.neg (-i)
  rw [thr_turned hw.1, thr_turned hw.1] at this
  have e1 : -(-i + -d) = i + d := by omega
  rwa [e1, Int.neg_neg] at this
omit [DecidableEq α] in
theorem moved_moved {w : List α} (hn : 0 < w.length) (j k : Int) : moved (moved w j) k = moved w (j + k) := by
  refine ext_thr (by simp) fun i => ?_
  rw [thr_moved (by simpa using hn), thr_moved hn, thr_moved hn]
  congr 1; omega
omit [DecidableEq α] in
theorem turned_turned {w : List α} (hn : 0 < w.length) : turned (turned w) = w := by
  refine ext_thr (by simp) fun i => ?_
  rw [thr_turned (by simpa using hn), thr_turned hn, Int.neg_neg]
omit [DecidableEq α] in
theorem moved_zero {w : List α} (hn : 0 < w.length) : moved w 0 = w := by
  refine ext_thr (by simp) fun i => ?_
  rw [thr_moved hn, Int.sub_zero]
omit [DecidableEq α] in
theorem turned_moved {w : List α} (hn : 0 < w.length) (k : Int) : turned (moved w k) = moved (turned w) (-k) := by
  refine ext_thr (by simp) fun i => ?_
  rw [thr_turned (by simpa using hn), thr_moved hn, thr_moved (by simpa using hn), thr_turned hn]
  congr 1; omega
/-- the round of a word that is told over and over, begun at a spot -/
def root (w : List α) (s : Int) : List α := mk (lrnd w) (fun i => thr w ((i : Int) + s))
@[simp] theorem root_length (w : List α) (s : Int) : (root w s).length = lrnd w := by simp [root]
theorem thr_root {w : List α} (hn : 0 < w.length) (s i : Int) : thr (root w s) i = thr w (i + s) := by
  obtain ⟨h1, h2, h3, _⟩ := lrnd_spec hn
  unfold root
  rw [mk_thr h1]
  have h4 := Int.emod_nonneg i (show (lrnd w : Int) ≠ 0 by omega)
  rw [Int.toNat_of_nonneg h4]
  have e : i + s = (i % (lrnd w : Int) + s) + (lrnd w : Int) * (i / (lrnd w : Int)) := by
    have := Int.emod_add_mul_ediv i (lrnd w : Int)
    omega
  rw [e, h3.mulz]
theorem prim_root {w : List α} (hn : 0 < w.length) (s : Int) : Prim (root w s) := by
  obtain ⟨h1, h2, h3, h4⟩ := lrnd_spec hn
  have hr : 0 < (root w s).length := by simpa using h1
  refine ⟨hr, ?_⟩
  obtain ⟨g1, g2, g3, g4⟩ := lrnd_spec hr
  have le := lrnd_le hr
  have : lrnd w ≤ lrnd (root w s) := by
    refine h4 _ g1 (Nat.dvd_trans g2 (by simpa using h2)) fun i => ?_
    have := g3 (i - s)
    rw [thr_root hn, thr_root hn] at this
    have e1 : i - s + (lrnd (root w s) : Int) + s = i + lrnd (root w s) := by omega
    have e2 : i - s + s = i := by omega
    rwa [e1, e2] at this
  rw [root_length] at le
  rw [root_length]
  omega
theorem root_prim {w : List α} (hw : Prim w) (s : Int) : root w s = moved w (-s) := by
  refine ext_thr (by rw [root_length, moved_length, hw.2]) fun i => ?_
  rw [thr_root hw.1, thr_moved hw.1]
  congr 1; omega
theorem take_lrnd {w : List α} (hn : 0 < w.length) : w.take (lrnd w) = root w 0 := by
  have h1 := lrnd_le hn
  refine ext_nat (by rw [List.length_take, root_length]; omega) fun i hi => ?_
  rw [List.length_take] at hi
  rw [thr_root hn, Int.add_zero]
  have e : thr (w.take (lrnd w)) i = (w.take (lrnd w))[i]'(by rw [List.length_take]; omega) := thr_of _
  rw [e, List.getElem_take, thr_of (by omega)]
/-! ### rotations -/
/-- begun at a place -/
def rot (w : List α) (k : Nat) : List α := w.drop k ++ w.take k
omit [DecidableEq α] [Inhabited α] in
theorem rot_length (w : List α) {k : Nat} : (rot w k).length = w.length := by unfold rot; rw [List.length_append, List.length_drop, List.length_take]; omega
omit [DecidableEq α] in
theorem rot_eq {w : List α} {k : Nat} (hn : 0 < w.length) (hk : k ≤ w.length) : rot w k = moved w (-(k : Int)) := by
  refine ext_nat (by rw [rot_length, moved_length]) fun i hi => ?_
  rw [rot_length] at hi
  rw [thr_moved hn, Int.sub_neg]
  have e : thr (rot w k) (i : Int) = (rot w k)[i]'(by rw [rot_length]; exact hi) := thr_of _
  rw [e]
  unfold rot
  by_cases q : i < w.length - k
  · rw [List.getElem_append_left (by rw [List.length_drop]; exact q), List.getElem_drop]
    rw [← thr_of]
    congr 1; omega
  · rw [List.getElem_append_right (by rw [List.length_drop]; omega), List.getElem_take]
    rw [← thr_of]
    apply thr_eq
    rw [List.length_drop]
    have : (i : Int) + k = ((i - (w.length - k) : Nat) : Int) + (w.length : Int) * 1 := by omega
    rw [this, Int.add_mul_emod_self_left]
/-- one by a move -/
def Rot (w v : List α) : Prop := w.length = v.length ∧ ∃ k : Int, v = moved w k
omit [DecidableEq α] in
theorem Rot.refl {w : List α} (hn : 0 < w.length) : Rot w w := ⟨rfl, 0, (moved_zero hn).symm⟩
omit [DecidableEq α] in
theorem Rot.symm {w v : List α} (hn : 0 < w.length) (h : Rot w v) : Rot v w := by
  obtain ⟨h1, k, rfl⟩ := h
  refine ⟨h1.symm, -k, ?_⟩
  rw [moved_moved hn, Int.add_right_neg, moved_zero hn]
omit [DecidableEq α] in
theorem Rot.trans {w v u : List α} (hn : 0 < w.length) (h : Rot w v) (g : Rot v u) : Rot w u := by
  obtain ⟨h1, k, rfl⟩ := h
  obtain ⟨g1, l, rfl⟩ := g
  exact ⟨by simp, k + l, moved_moved hn k l⟩
omit [DecidableEq α] in
theorem Rot.turn {w v : List α} (hn : 0 < w.length) (h : Rot w v) : Rot (turned w) (turned v) := by
  obtain ⟨h1, k, rfl⟩ := h
  exact ⟨by simp, -k, turned_moved hn k⟩
omit [DecidableEq α] in
theorem moved_mod {w : List α} (hn : 0 < w.length) (k : Int) : moved w k = moved w (k % (w.length : Int)) := by
  refine ext_thr (by simp) fun i => ?_
  rw [thr_moved hn, thr_moved hn]
  apply thr_eq
  rw [Int.sub_emod_emod]
/-- all rotations -/
def rots (w : List α) : List (List α) := mk w.length (fun k => rot w k)
omit [DecidableEq α] in
theorem mem_rots {w v : List α} (hn : 0 < w.length) : v ∈ rots w ↔ Rot w v := by
  unfold rots
  rw [mem_mk]
  constructor
  · rintro ⟨k, hk, rfl⟩
    exact ⟨(rot_length w).symm, -(k : Int), rot_eq hn (by omega)⟩
  · rintro ⟨h1, k, rfl⟩
    have h2 := Int.emod_nonneg (-k) (show (w.length : Int) ≠ 0 by omega)
    have h3 := Int.emod_lt_of_pos (-k) (show (0 : Int) < w.length by omega)
    refine ⟨((-k) % (w.length : Int)).toNat, by omega, ?_⟩
    rw [rot_eq hn (by omega), Int.toNat_of_nonneg h2]
    refine ext_thr (by simp) fun i => ?_
    rw [thr_moved hn, thr_moved hn]
    apply thr_eq
    rw [Int.sub_neg, Int.add_emod_emod]
    rfl
end
end WD
namespace WD
variable {α : Type} [Inhabited α] [DecidableEq α]
/-- d is a round -/
def isRnd (w : List α) (d : Nat) : Bool := decide (w.length % d = 0) && PerB w d
theorem lrnd_first {w : List α} {k : Nat} (h1 : ∀ d, 1 ≤ d → d ≤ k → isRnd w d = false) (h2 : isRnd w (k + 1) = true) (h3 : k + 1 < w.length) : lrnd w = k + 1 := by
  unfold lrnd
  rw [mk_range']
  cases h : (List.range' 1 (w.length - 1)).find? fun d => decide (w.length % d = 0) && PerB w d with
  | none =>
    have := List.find?_eq_none.mp h (k + 1) (by rw [List.mem_range']; exact ⟨k, by omega, by omega⟩)
    exact absurd h2 this
  | some d =>
    have g1 := List.find?_some h
    have g2 := List.mem_of_find?_eq_some h
    rw [List.mem_range'] at g2
    obtain ⟨i, hi, rfl⟩ := g2
    have g3 := find_first h (k + 1) (by omega)
    rw [Option.getD_some]
    rcases Nat.lt_trichotomy (1 + 1 * i) (k + 1) with q | q | q
    · have := h1 (1 + 1 * i) (by omega) (by omega)
      unfold isRnd at this
      rw [this] at g1
      cases g1
    · exact q
    · have := g3 q
      unfold isRnd at h2
      rw [h2] at this
      cases this
theorem lrnd_none {w : List α} (h1 : ∀ d, 1 ≤ d → d ≤ w.length - 1 → isRnd w d = false) : lrnd w = w.length := by
  unfold lrnd
  rw [mk_range']
  cases h : (List.range' 1 (w.length - 1)).find? fun d => decide (w.length % d = 0) && PerB w d with
  | none => rfl
  | some d =>
    have g1 := List.find?_some h
    have g2 := List.mem_of_find?_eq_some h
    rw [List.mem_range'] at g2
    obtain ⟨i, hi, rfl⟩ := g2
    have := h1 (1 + 1 * i) (by omega) (by omega)
    unfold isRnd at this
    rw [this] at g1
    cases g1
theorem rep_get {l : List α} : ∀ {k i : Nat}, i < k * l.length → ((List.replicate k l).flatten)[i]? = l[i % l.length]?
  | 0, i, h => by omega
  | k + 1, i, h => by
    have hl : 0 < l.length := by
      rcases Nat.eq_zero_or_pos l.length with z | z
      · rw [z] at h; omega
      · exact z
    rw [List.replicate_succ, List.flatten_cons]
    by_cases q : i < l.length
    · rw [List.getElem?_append_left q, Nat.mod_eq_of_lt q]
    · rw [List.getElem?_append_right (by omega), rep_get (by rw [Nat.succ_mul] at h; omega)]
      congr 1
      exact (Nat.mod_eq_sub_mod (by omega)).symm
theorem rep_length (l : List α) : ∀ k, ((List.replicate k l).flatten).length = k * l.length
  | 0 => by simp
  | k + 1 => by rw [List.replicate_succ, List.flatten_cons, List.length_append, rep_length l k, Nat.succ_mul, Nat.add_comm]
/-- told over and over -/
theorem rep_iff {w : List α} {d : Nat} (hd : 0 < d) (hn : 0 < w.length) (hdn : d ≤ w.length := by omega) : w.length % d = 0 → ((List.replicate (w.length / d) (w.take d)).flatten = w ↔ PerB w d = true) := by
  intro hm
  have hdvd := Nat.dvd_of_mod_eq_zero hm
  have hlt : (w.take d).length = d := by rw [List.length_take]; omega
  have hmul : w.length / d * d = w.length := Nat.div_mul_cancel hdvd
  rw [perB_iff hd hdvd hn]
  constructor
  · intro e i
    have key : ∀ i : Nat, i < w.length → thr w i = thr w ((i % d : Nat) : Int) := by
      intro i hi
      have h1 : ((List.replicate (w.length / d) (w.take d)).flatten)[i]? = (w.take d)[i % (w.take d).length]? := rep_get (by rw [hlt, hmul]; exact hi)
      have h2 := Nat.mod_lt i hd
      rw [e, hlt, List.getElem?_take_of_lt h2, thr_get hi, thr_get (show i % d < w.length by omega)] at h1
      exact Option.some.inj h1
    have h1 := Int.emod_nonneg i (show (w.length : Int) ≠ 0 by omega)
    have h2 := Int.emod_lt_of_pos i (show (0 : Int) < w.length by omega)
    have g1 := Int.emod_nonneg (i + d) (show (w.length : Int) ≠ 0 by omega)
    have g2 := Int.emod_lt_of_pos (i + d) (show (0 : Int) < w.length by omega)
    obtain ⟨r, hr⟩ := Int.eq_ofNat_of_zero_le h1
    obtain ⟨q, hq⟩ := Int.eq_ofNat_of_zero_le g1
    rw [← thr_mod w i, ← thr_mod w (i + d), hr, hq, key r (by omega), key q (by omega)]
    congr 2
    have e1 : ((q : Int)) % d = (r : Int) % d := by
      rw [← hq, ← hr, Int.emod_emod_of_dvd _ (Int.natCast_dvd_natCast.mpr hdvd), Int.emod_emod_of_dvd _ (Int.natCast_dvd_natCast.mpr hdvd)]
      simp
    have e2 : ((q % d : Nat) : Int) = ((r % d : Nat) : Int) := by rw [Int.natCast_emod, Int.natCast_emod]; exact e1
    omega
  · intro hp
    refine ext_nat (by rw [rep_length, hlt, hmul]) fun i hi => ?_
    rw [rep_length, hlt, hmul] at hi
    have h2 := Nat.mod_lt i hd
    have h1 : ((List.replicate (w.length / d) (w.take d)).flatten)[i]? = (w.take d)[i % (w.take d).length]? := rep_get (by rw [hlt, hmul]; exact hi)
    rw [hlt, List.getElem?_take_of_lt h2, thr_get (show i < ((List.replicate (w.length / d) (w.take d)).flatten).length by rw [rep_length, hlt, hmul]; exact hi), thr_get (show i % d < w.length by omega)] at h1
    rw [Option.some.inj h1]
    have := hp.mod (i : Int)
    rw [← this]
    congr 1
end WD
/-! The eight ways over classes of rows. Plain mathematics. -/
namespace WD
section
variable {β : Type} [DecidableEq β]
abbrev Way := Bool × Bool × Bool
def ways8 : List Way := [(false, false, false), (false, true, false), (false, false, true), (false, true, true), (true, false, false), (true, true, false), (true, false, true), (true, true, true)]
def byW {γ : Type} (t : γ → γ) (g : Way) (p : γ × γ) : γ × γ :=
  let q := if g.1 then (p.2, p.1) else p
  (if g.2.1 then t q.1 else q.1, if g.2.2 then t q.2 else q.2)
/-- one way and then another one -/
def beh (x y : Way) : Way :=
  let q := if y.1 then (x.2.2, x.2.1) else (x.2.1, x.2.2)
  (x.1 != y.1, q.1 != y.2.1, q.2 != y.2.2)
def inv (x : Way) : Way := if x.1 then (true, x.2.2, x.2.1) else x
def found (t : β → β) (p q : β × β) : List Way := ways8.filter fun g => decide (byW t g p = q)
variable {t : β → β}
theorem byW_beh {p : β × β} (h1 : t (t p.1) = p.1) (h2 : t (t p.2) = p.2) (x y : Way) : byW t (beh x y) p = byW t y (byW t x p) := by
  obtain ⟨a, b⟩ := p
  obtain ⟨x1, x2, x3⟩ := x
  obtain ⟨y1, y2, y3⟩ := y
  simp only at h1 h2
  cases x1 <;> cases x2 <;> cases x3 <;> cases y1 <;> cases y2 <;> cases y3 <;> simp [byW, beh, h1, h2]
theorem mem_ways8 (x : Way) : x ∈ ways8 := by
  obtain ⟨x1, x2, x3⟩ := x
  cases x1 <;> cases x2 <;> cases x3 <;> simp [ways8]
theorem mem_found {p q : β × β} {x : Way} : x ∈ found t p q ↔ byW t x p = q := by
  unfold found
  rw [List.mem_filter, decide_eq_true_iff]
  exact ⟨fun h => h.2, fun h => ⟨mem_ways8 x, h⟩⟩
theorem found_closed {p : β × β} (h1 : t (t p.1) = p.1) (h2 : t (t p.2) = p.2) {x y : Way} (hx : x ∈ found t p p) (hy : y ∈ found t p p) : beh x y ∈ found t p p := by
  rw [mem_found] at *
  rw [byW_beh h1 h2, hx, hy]
theorem found_stay (p : β × β) : (found t p p).head? = some (false, false, false) := by
  unfold found ways8
  rw [List.filter_cons_of_pos (by simp [byW])]
  rfl
theorem byW_inv {p q : β × β} (h1 : t (t p.1) = p.1) (h2 : t (t p.2) = p.2) (x : Way) (h : byW t x p = q) : byW t (inv x) q = p := by
  subst h
  obtain ⟨a, b⟩ := p
  obtain ⟨x1, x2, x3⟩ := x
  simp only at h1 h2
  cases x1 <;> cases x2 <;> cases x3 <;> simp [byW, inv, h1, h2]
theorem inv_inv (x : Way) : inv (inv x) = x := by
  obtain ⟨x1, x2, x3⟩ := x
  cases x1 <;> cases x2 <;> cases x3 <;> rfl
/-- how many of eight -/
def cnt (f : Way → Bool) : Nat := (ways8.filter f).length
theorem cnt_perm (σ : Way → Way) (h : (ways8.map σ).Perm ways8) (f : Way → Bool) : cnt (fun x => f (σ x)) = cnt f := by
  unfold cnt
  rw [← List.countP_eq_length_filter, ← List.countP_eq_length_filter]
  have := h.countP_eq f
  rw [List.countP_map] at this
  exact this
theorem cnt_inv (f : Way → Bool) : cnt (fun x => f (inv x)) = cnt f := cnt_perm inv (by decide) f
theorem found_back {p q : β × β} (h1 : t (t p.1) = p.1) (h2 : t (t p.2) = p.2) (h3 : t (t q.1) = q.1) (h4 : t (t q.2) = q.2) : (found t q p).length = (found t p q).length := by
  show cnt _ = cnt _
  rw [← cnt_inv (fun g => decide (byW t g p = q))]
  unfold cnt
  congr 1
  apply List.filter_congr
  intro x _
  rw [decide_eq_decide]
  constructor
  · intro h; exact byW_inv h3 h4 x h
  · intro h
    have := byW_inv h1 h2 _ h
    rwa [inv_inv] at this
/-- a shift of the ways by one of them changes their order alone -/
theorem cnt_beh (g : Way) (f : Way → Bool) : cnt (fun x => f (beh x g)) = cnt f := by
  refine cnt_perm (fun x => beh x g) ?_ f
  obtain ⟨x1, x2, x3⟩ := g
  cases x1 <;> cases x2 <;> cases x3 <;> decide
theorem byW_inj {p q : β × β} (h1 : t (t p.1) = p.1) (h2 : t (t p.2) = p.2) (h3 : t (t q.1) = q.1) (h4 : t (t q.2) = q.2) (g : Way) (h : byW t g p = byW t g q) : p = q := by
  rw [← byW_inv h1 h2 g rfl, h, byW_inv h3 h4 g rfl]
theorem byW_tt {p : β × β} (h1 : t (t p.1) = p.1) (h2 : t (t p.2) = p.2) (g : Way) : t (t (byW t g p).1) = (byW t g p).1 ∧ t (t (byW t g p).2) = (byW t g p).2 := by
  obtain ⟨a, b⟩ := p
  obtain ⟨x1, x2, x3⟩ := g
  simp only at h1 h2
  cases x1 <;> cases x2 <;> cases x3 <;> simp [byW, h1, h2]
theorem found_many {p q : β × β} (h1 : t (t p.1) = p.1) (h2 : t (t p.2) = p.2) (h : found t p q ≠ []) : (found t p q).length = (found t p p).length := by
  obtain ⟨g, hg⟩ := List.exists_mem_of_ne_nil _ h
  rw [mem_found] at hg
  subst hg
  show cnt _ = cnt _
  rw [← cnt_beh g (fun x => decide (byW t x p = byW t g p))]
  unfold cnt
  congr 1
  apply List.filter_congr
  intro x _
  rw [decide_eq_decide, byW_beh h1 h2]
  have hx := byW_tt h1 h2 x
  exact ⟨fun z => byW_inj hx.1 hx.2 h1 h2 g z, fun z => by rw [z]⟩
theorem found_size {p : β × β} (h1 : t (t p.1) = p.1) (h2 : t (t p.2) = p.2) : (found t p p).length = 1 ∨ (found t p p).length = 2 ∨ (found t p p).length = 4 ∨ (found t p p).length = 8 := by
  obtain ⟨a, b⟩ := p
  simp only at h1 h2
  have e1 : t a = b ↔ a = t b := ⟨fun h => by rw [← h, h1], fun h => by rw [h, h2]⟩
  have e2 : t b = a ↔ a = t b := ⟨fun h => h.symm, fun h => h.symm⟩
  have e3 : b = a ↔ a = b := ⟨fun h => h.symm, fun h => h.symm⟩
  have e4 : t b = t a ↔ a = b := ⟨fun h => by rw [← h1, ← h, h2], fun h => by rw [h]⟩
  unfold found ways8
  by_cases r : a = b
  · subst r
    by_cases s : t a = a <;> simp [byW, List.filter_cons, s]
  · by_cases s : a = t b
    · have p1 : ¬ t a = a := fun z => r (by rw [← h2, ← s, z])
      have p2 : ¬ t b = b := fun z => r (by rw [s, z])
      simp [byW, List.filter_cons, e1, e2, e3, e4, r, s, p1, p2, h2]
      simp [← s, r, p2, Ne.symm r]
    · by_cases p1 : t a = a <;> by_cases p2 : t b = b <;> simp [byW, List.filter_cons, e1, e2, e3, e4, r, s, p1, p2, h1, h2]
end
end WD
/-! The least rotation as Python's min tells it: one for all rotations of a row. -/
namespace WD
open PySem PySem.W PyProof.Rows DL
instance : Inhabited Str := ⟨⟨#[]⟩⟩
/-- texts as data -/
def pyT (w : List Str) : PyData := .tuple (w.map PyData.str)
def sD (w : List Str) : List D := w.map D.str
@[simp] theorem sD_length (w : List Str) : (sD w).length = w.length := by simp [sD]
theorem pyDs_str : ∀ w : List Str, pyDs (sD w) = some (w.map PyData.str)
  | [] => rfl
  | s :: w => by
    show (match pyDs (sD w) with | some ps => some (PyData.str s :: ps) | none => none) = _
    rw [pyDs_str w]
    rfl
theorem pyD_tup (w : List Str) : pyD (.tup (sD w)) = some (pyT w) := by
  show (match pyDs (sD w) with | some ps => some (PyData.tuple ps) | none => none) = _
  rw [pyDs_str w]
  try rfl
theorem pyD_lst (w : List Str) : pyD (.lst (sD w)) = some (.list (w.map PyData.str)) := by
  show (match pyDs (sD w) with | some ps => some (PyData.list ps) | none => none) = _
  rw [pyDs_str w]
  try rfl
theorem pyDs_tups : ∀ l : List (List Str), pyDs (l.map fun w => D.tup (sD w)) = some (l.map pyT)
  | [] => rfl
  | w :: l => by
    show (match pyD (.tup (sD w)) with
      | some p => match pyDs (l.map fun w => D.tup (sD w)) with | some ps => some (p :: ps) | none => none
      | none => none) = _
    rw [pyD_tup, pyDs_tups l]
    try rfl
theorem eqvAll_str : ∀ w v : List Str, PyData.eqvAll (w.map PyData.str) (v.map PyData.str) = decide (w = v)
  | [], [] => by simp [PyData.eqvAll]
  | [], _ :: _ => by simp [PyData.eqvAll]
  | _ :: _, [] => by simp [PyData.eqvAll]
  | a :: w, b :: v => by
    rw [List.map_cons, List.map_cons, PyData.eqvAll, eqvAll_str w v, PyData.eqv]
    by_cases e : a = b <;> simp [e]
theorem eqv_pyT (w v : List Str) : PyData.eqv (pyT w) (pyT v) = decide (w = v) := by
  unfold pyT
  rw [PyData.eqv]
  exact eqvAll_str w v
theorem eqv_lst (w v : List Str) : PyData.eqv (.list (w.map PyData.str)) (.list (v.map PyData.str)) = decide (w = v) := by
  rw [PyData.eqv]
  exact eqvAll_str w v
theorem eqvAll_tups : ∀ l m : List (List Str), PyData.eqvAll (l.map pyT) (m.map pyT) = decide (l = m)
  | [], [] => by simp [PyData.eqvAll]
  | [], _ :: _ => by simp [PyData.eqvAll]
  | _ :: _, [] => by simp [PyData.eqvAll]
  | a :: w, b :: v => by
    rw [List.map_cons, List.map_cons, PyData.eqvAll, eqvAll_tups w v, eqv_pyT]
    by_cases e : a = b <;> simp [e]
theorem alikeAll_str : ∀ w v : List Str, alikeAll (w.map PyData.str) (v.map PyData.str) = true
  | [], _ => by rw [List.map_nil, alikeAll]
  | _ :: _, [] => by rw [List.map_nil, List.map_cons, alikeAll]
  | a :: w, b :: v => by
    rw [List.map_cons, List.map_cons, alikeAll, alikeAll_str w v]
    rfl
theorem alike_pyT (w v : List Str) : alike (pyT w) (pyT v) = true := by
  unfold pyT
  rw [alike]
  exact alikeAll_str w v
theorem toks_inj {w v : List Str} (h : keyToks (pyT w) = keyToks (pyT v)) : w = v := by
  by_cases e : PyData.eqv (pyT w) (pyT v) = true
  · rw [eqv_pyT] at e
    exact of_decide_eq_true e
  · have e' : PyData.eqv (pyT w) (pyT v) = false := by simpa using e
    -- unlike rows of signs, for two that are not equal
    unfold pyT at h
    rw [keyToks, keyToks] at h
    clear e e'
    induction w generalizing v with
    | nil =>
      cases v with
      | nil => rfl
      | cons b v => simp [keyToksAll] at h
    | cons a w ih =>
      cases v with
      | nil => simp [keyToksAll] at h
      | cons b v =>
        rw [List.map_cons, List.map_cons, keyToksAll, keyToksAll, keyToks, keyToks] at h
        simp only [List.cons_append, List.nil_append, List.cons.injEq, Sum.inr.injEq, true_and] at h
        rw [str_of_cps h.1, ih h.2]
theorem best_mem (bt : Nat → Nat → Bool) : ∀ k, argBest bt k ≤ k
  | 0 => Nat.le_refl _
  | k + 1 => by
    show (if bt (k + 1) (argBest bt k) then k + 1 else argBest bt k) ≤ k + 1
    split
    · exact Nat.le_refl _
    · exact Nat.le_succ_of_le (best_mem bt k)
theorem best_min {l : List PyData} : ∀ k j, j ≤ k → dataLt (l.getD j .none) (l.getD (argBest (fun i j => dataLt (l.getD i .none) (l.getD j .none)) k) .none) = false
  | 0, j, h => by
    obtain rfl : j = 0 := by omega
    exact lex_irrefl _
  | k + 1, j, h => by
    show dataLt _ (l.getD (if dataLt (l.getD (k + 1) .none) (l.getD (argBest (fun i j => dataLt (l.getD i .none) (l.getD j .none)) k) .none) = true then k + 1 else _) .none) = false
    by_cases q : j = k + 1
    · subst q
      split
      · exact lex_irrefl _
      · rename_i z; simpa using z
    · have ih := best_min (l := l) k j (by omega)
      split
      · rename_i z
        cases z2 : dataLt (l.getD j .none) (l.getD (k + 1) .none) with
        | false => rfl
        | true => rw [show dataLt (l.getD j .none) (l.getD (argBest (fun i j => dataLt (l.getD i .none) (l.getD j .none)) k) .none) = true from lex_trans _ _ _ z2 z] at ih; cases ih
      · exact ih
/-- the least of some rows, as min tells it -/
def minW (l : List (List Str)) : List Str := l.getD (DLX.leastAt (l.map pyT)) []
theorem least_lt {l : List (List Str)} (h : l ≠ []) : DLX.leastAt (l.map pyT) < l.length := by
  have := best_mem (fun i j => dataLt ((l.map pyT).getD i .none) ((l.map pyT).getD j .none)) ((l.map pyT).length - 1)
  have hl : 0 < l.length := List.length_pos_iff.mpr h
  unfold DLX.leastAt
  rw [List.length_map] at *
  omega
theorem minW_mem {l : List (List Str)} (h : l ≠ []) : minW l ∈ l := by
  unfold minW
  rw [List.getD_eq_getElem?_getD, List.getElem?_eq_getElem (least_lt h)]
  exact List.getElem_mem _
theorem minW_le {l : List (List Str)} {w : List Str} (hw : w ∈ l) : dataLt (pyT w) (pyT (minW l)) = false := by
  have h : l ≠ [] := List.ne_nil_of_mem hw
  obtain ⟨j, hj, e⟩ := List.mem_iff_getElem.mp hw
  have := best_min (l := l.map pyT) ((l.map pyT).length - 1) j (by rw [List.length_map]; omega)
  have e1 : (l.map pyT).getD j .none = pyT w := by
    rw [List.getD_eq_getElem?_getD, List.getElem?_map, List.getElem?_eq_getElem hj, e]; rfl
  have e2 : (l.map pyT).getD (DLX.leastAt (l.map pyT)) .none = pyT (minW l) := by
    unfold minW
    rw [List.getD_eq_getElem?_getD, List.getElem?_map, List.getElem?_eq_getElem (least_lt h), List.getD_eq_getElem?_getD, List.getElem?_eq_getElem (least_lt h)]; rfl
  rw [e1] at this
  unfold DLX.leastAt at e2
  rw [e2] at this
  exact this
/-- the same rows have the same least one -/
theorem minW_congr {l m : List (List Str)} (hl : l ≠ []) (hm : m ≠ []) (h : ∀ w, w ∈ l ↔ w ∈ m) : minW l = minW m :=
  toks_inj (lex_total _ _ (minW_le ((h _).mpr (minW_mem hm)) |> fun z => (minW_le ((h _).mp (minW_mem hl)))) (minW_le ((h _).mpr (minW_mem hm))))
def least (w : List Str) : List Str := minW (rots w)
theorem rots_ne {w : List Str} (hn : 0 < w.length) : rots w ≠ [] := by
  intro z
  have := congrArg List.length z
  unfold rots at this
  rw [mk_length] at this
  simp at this
  rw [this] at hn
  simp at hn
theorem least_rot {w : List Str} (hn : 0 < w.length) : Rot w (least w) := (mem_rots hn).mp (minW_mem (rots_ne hn))
theorem least_iff {w v : List Str} (hw : 0 < w.length) (hv : 0 < v.length) : least w = least v ↔ Rot w v := by
  constructor
  · intro h
    have h1 := least_rot hw
    have h2 := least_rot hv
    rw [← h] at h2
    have : 0 < (least w).length := by rw [← h1.1]; exact hw
    exact h1.trans hw (h2.symm hv)
  · intro h
    refine minW_congr (rots_ne hw) (rots_ne hv) fun u => ?_
    rw [mem_rots hw, mem_rots hv]
    exact ⟨fun z => (h.symm hw).trans hv z, fun z => h.trans hw z⟩
theorem least_length {w : List Str} (hn : 0 < w.length) : (least w).length = w.length := (least_rot hn).1.symm
theorem depthAll_str : ∀ w : List Str, PyData.depthAll (w.map PyData.str) ≤ 1
  | [] => by simp [PyData.depthAll]
  | a :: w => by
    rw [List.map_cons, PyData.depthAll, PyData.depth]
    have := depthAll_str w
    omega
theorem depth_pyT (w : List Str) : (pyT w).depth ≤ 2 := by
  unfold pyT
  rw [PyData.depth]
  have := depthAll_str w
  omega
theorem depth_lst (w : List Str) : (PyData.list (w.map PyData.str)).depth ≤ 2 := by
  rw [PyData.depth]
  have := depthAll_str w
  omega
/-- what min tells of such a list -/
theorem biR_min {l : List (List Str)} (h : l ≠ []) : biR .min [.ow (.lst (l.map fun w => D.tup (sD w)))] = some (.im (.tup (sD (minW l)))) := by
  simp only [biR, R.lst?, Option.bind_some, pyDs_tups]
  rw [if_pos]
  · rw [List.getElem?_map, List.getElem?_eq_getElem (least_lt h)]
    unfold minW
    rw [List.getD_eq_getElem?_getD, List.getElem?_eq_getElem (least_lt h)]
    rfl
  · constructor
    · intro i j hi hj
      rw [List.length_map] at hi hj
      rw [List.getD_eq_getElem?_getD, List.getD_eq_getElem?_getD, List.getElem?_map, List.getElem?_map, List.getElem?_eq_getElem hi, List.getElem?_eq_getElem hj]
      exact alike_pyT _ _
    · intro p hp
      obtain ⟨w, _, rfl⟩ := List.mem_map.mp hp
      refine ⟨(fun z => by unfold pyT at z; cases z), ?_⟩
      exact Nat.le_trans (depth_pyT w) (by decide)
@[simp] theorem atI_0 {α : Type} (x : α) (xs : List α) : L2.atI (x :: xs) 0 = some x := by
  unfold L2.atI L2.ixN
  simp
@[simp] theorem atI_1 {α : Type} (x y : α) (xs : List α) : L2.atI (x :: y :: xs) 1 = some y := by
  unfold L2.atI L2.ixN
  simp
  rw [if_pos (by omega)]
  rfl
/-! == of data -/
theorem eqR_of {ra rb : R} {d e : D} {p q : PyData} (h1 : ra.lookD = some d) (h2 : rb.lookD = some e) (p1 : pyD d = some p) (p2 : pyD e = some q) (hd : p.depth ≤ 60) : eqR ra rb = some (PyData.eqv p q) := by
  unfold eqR
  rw [h1, h2]
  simp only [Option.bind_some, p1, p2]
  exact gd_pos hd
@[simp] theorem eqR_int (i j : Int) : eqR (.im (.int i)) (.im (.int j)) = some (decide (i = j)) := by
  rw [eqR_of rfl rfl rfl rfl (by simp [PyData.depth])]
  simp [PyData.eqv]; rfl
@[simp] theorem eqR_str (i j : Str) : eqR (.im (.str i)) (.im (.str j)) = some (decide (i = j)) := by
  rw [eqR_of rfl rfl rfl rfl (by simp [PyData.depth])]
  simp [PyData.eqv]; rfl
@[simp] theorem eqR_bl (i j : Bool) : eqR (.im (.bl i)) (.im (.bl j)) = some (decide (i = j)) := by
  rw [eqR_of rfl rfl rfl rfl (by simp [PyData.depth])]
  cases i <;> cases j <;> simp [PyData.eqv]
@[simp] theorem eqR_sD (w v : List Str) : eqR (.im (.tup (sD w))) (.im (.tup (sD v))) = some (decide (w = v)) := by
  rw [eqR_of rfl rfl (pyD_tup w) (pyD_tup v) (Nat.le_trans (depth_pyT w) (by decide)), eqv_pyT]
theorem eqR_lD {ra rb : R} (w v : List Str) (h1 : ra.lookD = some (.lst (sD w))) (h2 : rb.lookD = some (.lst (sD v))) : eqR ra rb = some (decide (w = v)) := by
  rw [eqR_of h1 h2 (pyD_lst w) (pyD_lst v) (Nat.le_trans (depth_lst w) (by decide)), eqv_lst]
theorem eqR_tup0 (ds : List D) (ps : List PyData) (h : pyDs ds = some ps) (hd : (PyData.tuple ps).depth ≤ 60) : eqR (.im (.tup ds)) (.im (.tup [])) = some (decide (ds = [])) := by
  rw [eqR_of (p := .tuple ps) rfl rfl (by show (match pyDs ds with | some ps => some (PyData.tuple ps) | none => none) = _; rw [h]) rfl hd]
  cases ds with
  | nil => cases h; simp [PyData.eqv, PyData.eqvAll]
  | cons a ds =>
    cases ps with
    | nil =>
      unfold pyDs at h
      split at h
      · split at h
        · cases h
        · cases h
      · cases h
    | cons p ps => simp [PyData.eqv, PyData.eqvAll]
end WD
/-! EV: how terms are reckoned, row by row, for simp; a call by value by congruence. -/
namespace DL
open PySem PySem.Spec L2

/-- it comes to something of which Q holds -/
def Wp {α : Type} (o : Option α) (Q : α → Prop) : Prop := ∃ a, o = some a ∧ Q a
/-- .. and then f of it -/
def WpK {α β : Type} (f : α → Option β) (Q : β → Prop) (a : α) : Prop := Wp (f a) Q
def WpM {α β : Type} (f : α → β) (Q : β → Prop) (a : α) : Prop := Q (f a)
section
variable {α β : Type} {o o' : Option α} {f : α → Option β} {Q Q' : α → Prop}
@[simp] theorem WpK_eq {Q : β → Prop} {a : α} : WpK f Q a = Wp (f a) Q := (rfl)
@[simp] theorem WpM_eq {f : α → β} {Q : β → Prop} {a : α} : WpM f Q a = Q (f a) := (rfl)
@[simp] theorem Wp_some {a : α} : Wp (some a) Q ↔ Q a := ⟨fun ⟨_, e, h⟩ => by cases e; exact h, fun h => ⟨a, rfl, h⟩⟩
@[simp] theorem Wp_none : Wp (none : Option α) Q ↔ False := ⟨fun ⟨a, e, h⟩ => (by cases e), fun h => False.elim h⟩
@[simp] theorem Wp_bind {Q : β → Prop} : Wp (o.bind f) Q ↔ Wp o (WpK f Q) := by
  cases o with
  | none => simp
  | some a => simp
@[simp] theorem Wp_map {f : α → β} {Q : β → Prop} : Wp (o.map f) Q ↔ Wp o (WpM f Q) := by
  cases o with
  | none => simp
  | some a => simp
theorem Wp.imp (h : Wp o Q) (g : ∀ a, Q a → Q' a) : Wp o Q' := by
  obtain ⟨a, e, h⟩ := h
  exact ⟨a, e, g a h⟩
theorem Wp.of_eq {a : α} (e : o = some a) (h : Q a) : Wp o Q := ⟨a, e, h⟩
theorem wp_eq {a : α} (h : Wp o (· = a)) : o = some a := by
  obtain ⟨b, e, h⟩ := h
  rw [e]; exact congrArg some h
@[simp] theorem Wp_gd {p : Prop} {x : α} : Wp (gd p x) Q ↔ p ∧ Q x := by
  constructor
  · rintro ⟨a, e, h⟩
    obtain ⟨e1, e2⟩ := gd_some e
    exact ⟨e1, e2 ▸ h⟩
  · rintro ⟨h1, h2⟩; exact ⟨x, gd_pos h1, h2⟩
@[simp] theorem Wp_ite {c : Prop} [Decidable c] {a b : Option α} : Wp (if c then a else b) Q ↔ (c → Wp a Q) ∧ (¬ c → Wp b Q) := by
  split
  · rename_i h; exact ⟨fun z => ⟨fun _ => z, fun q => absurd h q⟩, fun z => z.1 h⟩
  · rename_i h; exact ⟨fun z => ⟨fun q => absurd q h, fun _ => z⟩, fun z => z.2 h⟩
end
def retO : Out → Option R
  | .ret r _ => some r
  | _ => none
@[simp] theorem retO_ret {r : R} {fs : List Slot} : retO (.ret r fs) = some r := (rfl)
section
variable {T : Tb} {n np : Nat} {Γ : List Slot}
/-- terms, one by one -/
noncomputable def evs (T : Tb) (n : Nat) (Γ : List Slot) (es : List PE) : Option (List R) := mapO (fun e => evP T n e Γ) es
noncomputable def evds (T : Tb) (n : Nat) (Γ : List Slot) (es : List PE) : Option (List D) := mapO (fun e => (evP T n e Γ).bind R.toD) es
noncomputable def evsK (T : Tb) (n : Nat) (Γ : List Slot) (es : List PE) (r : R) : Option (List R) := (evs T n Γ es).map (List.cons r)
noncomputable def evdsK2 (T : Tb) (n : Nat) (Γ : List Slot) (es : List PE) (r : D) : Option (List D) := (evds T n Γ es).map (List.cons r)
noncomputable def evdsK (T : Tb) (n : Nat) (Γ : List Slot) (es : List PE) (r : R) : Option (List D) := r.toD.bind (evdsK2 T n Γ es)
theorem mapO_bind {α β : Type} {f : α → Option β} {a : α} {as : List α} : mapO f (a :: as) = (f a).bind fun b => (mapO f as).map (b :: ·) := by
  show (match f a with | some b => (match mapO f as with | some bs => some (b :: bs) | none => none) | none => none) = _
  cases f a with
  | none => rfl
  | some b => cases mapO f as <;> rfl
@[simp] theorem evs_nil : evs T n Γ [] = some [] := (rfl)
@[simp] theorem evs_cons {e : PE} {es : List PE} : evs T n Γ (e :: es) = (evP T n e Γ).bind (evsK T n Γ es) := mapO_bind
@[simp] theorem evsK_eq {r : R} {es : List PE} : evsK T n Γ es r = (evs T n Γ es).map (List.cons r) := (rfl)
@[simp] theorem evdz_nil : evds T n Γ [] = some [] := (rfl)
@[simp] theorem evdz_cons {e : PE} {es : List PE} : evds T n Γ (e :: es) = (evP T n e Γ).bind (evdsK T n Γ es) := by
  show mapO _ _ = _
  rw [mapO_bind]
  cases evP T n e Γ <;> rfl
@[simp] theorem evdsK_eq {r : R} {es : List PE} : evdsK T n Γ es r = r.toD.bind (evdsK2 T n Γ es) := (rfl)
@[simp] theorem evdsK2_eq {r : D} {es : List PE} : evdsK2 T n Γ es r = (evds T n Γ es).map (List.cons r) := (rfl)
def blR (q : Bool) : R := .im (.bl q)
@[simp] theorem blR_eq {q : Bool} : blR q = .im (.bl q) := (rfl)
def blK (r : R) : Option R := r.bl?.map blR
@[simp] theorem blK_eq {r : R} : blK r = r.bl?.map blR := (rfl)
@[simp] theorem evP_var {i : Nat} : evP T (n + 1) (.var i) Γ = Γ[i]?.bind slotR := (rfl)
@[simp] theorem evP_int {i : Int} : evP T (n + 1) (.int i) Γ = some (.im (.int i)) := (rfl)
@[simp] theorem evP_str {s : Str} : evP T (n + 1) (.str s) Γ = some (.im (.str s)) := (rfl)
@[simp] theorem evP_bl {s : Bool} : evP T (n + 1) (.bl s) Γ = some (.im (.bl s)) := (rfl)
@[simp] theorem evP_non : evP T (n + 1) .non Γ = some (.im .non) := (rfl)
@[simp] theorem evP_con {j : Nat} : evP T (n + 1) (.con j) Γ = some (.im (T.con j)) := (rfl)
noncomputable def binK (T : Tb) (n : Nat) (Γ : List Slot) (op : Operator) (b : PE) (ra : R) : Option R := (evP T n b Γ).bind (binR op ra)
@[simp] theorem binK_eq {op : Operator} {b : PE} {ra : R} : binK T n Γ op b ra = (evP T n b Γ).bind (binR op ra) := (rfl)
@[simp] theorem evP_bin {op : Operator} {a b : PE} : evP T (n + 1) (.bin op a b) Γ = (evP T n a Γ).bind (binK T n Γ op b) := (rfl)
noncomputable def cmpK2 (op : CmpOp) (ra rb : R) : Option R := (cmpR op ra rb).map blR
@[simp] theorem cmpK2_eq {op : CmpOp} {ra rb : R} : cmpK2 op ra rb = (cmpR op ra rb).map blR := (rfl)
noncomputable def cmpK (T : Tb) (n : Nat) (Γ : List Slot) (op : CmpOp) (b : PE) (ra : R) : Option R := (evP T n b Γ).bind (cmpK2 op ra)
@[simp] theorem cmpK_eq {op : CmpOp} {b : PE} {ra : R} : cmpK T n Γ op b ra = (evP T n b Γ).bind (cmpK2 op ra) := (rfl)
@[simp] theorem evP_cmp {op : CmpOp} {a b : PE} : evP T (n + 1) (.cmp op a b) Γ = (evP T n a Γ).bind (cmpK T n Γ op b) := (rfl)
def andQ (p q : Bool) : R := .im (.bl (p && q))
@[simp] theorem andQ_eq {p q : Bool} : andQ p q = .im (.bl (p && q)) := (rfl)
noncomputable def chK4 (o2 : CmpOp) (rb rc : R) (p : Bool) : Option R := (cmpR o2 rb rc).map (andQ p)
@[simp] theorem chK4_eq {o2 : CmpOp} {rb rc : R} {p : Bool} : chK4 o2 rb rc p = (cmpR o2 rb rc).map (andQ p) := (rfl)
noncomputable def chK3 (o1 o2 : CmpOp) (ra rb rc : R) : Option R := (cmpR o1 ra rb).bind (chK4 o2 rb rc)
@[simp] theorem chK3_eq {o1 o2 : CmpOp} {ra rb rc : R} : chK3 o1 o2 ra rb rc = (cmpR o1 ra rb).bind (chK4 o2 rb rc) := (rfl)
noncomputable def chK2 (T : Tb) (n : Nat) (Γ : List Slot) (o1 o2 : CmpOp) (c : PE) (ra rb : R) : Option R := (evP T n c Γ).bind (chK3 o1 o2 ra rb)
@[simp] theorem chK2_eq {o1 o2 : CmpOp} {c : PE} {ra rb : R} : chK2 T n Γ o1 o2 c ra rb = (evP T n c Γ).bind (chK3 o1 o2 ra rb) := (rfl)
noncomputable def chK (T : Tb) (n : Nat) (Γ : List Slot) (o1 o2 : CmpOp) (b c : PE) (ra : R) : Option R := (evP T n b Γ).bind (chK2 T n Γ o1 o2 c ra)
@[simp] theorem chK_eq {o1 o2 : CmpOp} {b c : PE} {ra : R} : chK T n Γ o1 o2 b c ra = (evP T n b Γ).bind (chK2 T n Γ o1 o2 c ra) := (rfl)
@[simp] theorem evP_chain {o1 o2 : CmpOp} {a b c : PE} : evP T (n + 1) (.chain o1 o2 a b c) Γ = (evP T n a Γ).bind (chK T n Γ o1 o2 b c) := (rfl)
noncomputable def andK2 (T : Tb) (n : Nat) (Γ : List Slot) (b : PE) (p : Bool) : Option R := if p = true then (evP T n b Γ).bind blK else some (.im (.bl false))
@[simp] theorem andK2_eq {b : PE} {p : Bool} : andK2 T n Γ b p = if p = true then (evP T n b Γ).bind blK else some (.im (.bl false)) := (rfl)
noncomputable def andK (T : Tb) (n : Nat) (Γ : List Slot) (b : PE) (ra : R) : Option R := ra.bl?.bind (andK2 T n Γ b)
@[simp] theorem andK_eq {b : PE} {ra : R} : andK T n Γ b ra = ra.bl?.bind (andK2 T n Γ b) := (rfl)
@[simp] theorem evP_and {a b : PE} : evP T (n + 1) (.and a b) Γ = (evP T n a Γ).bind (andK T n Γ b) := by
  show ((evP T n a Γ).bind R.bl?).bind _ = _
  cases evP T n a Γ with
  | none => rfl
  | some r =>
    show r.bl?.bind _ = r.bl?.bind _
    congr 1
    funext p
    unfold andK2 blK
    cases evP T n b Γ <;> rfl
noncomputable def orK2 (T : Tb) (n : Nat) (Γ : List Slot) (b : PE) (p : Bool) : Option R := if p = true then some (.im (.bl true)) else (evP T n b Γ).bind blK
@[simp] theorem orK2_eq {b : PE} {p : Bool} : orK2 T n Γ b p = if p = true then some (.im (.bl true)) else (evP T n b Γ).bind blK := (rfl)
noncomputable def orK (T : Tb) (n : Nat) (Γ : List Slot) (b : PE) (ra : R) : Option R := ra.bl?.bind (orK2 T n Γ b)
@[simp] theorem orK_eq {b : PE} {ra : R} : orK T n Γ b ra = ra.bl?.bind (orK2 T n Γ b) := (rfl)
@[simp] theorem evP_or {a b : PE} : evP T (n + 1) (.or a b) Γ = (evP T n a Γ).bind (orK T n Γ b) := by
  show ((evP T n a Γ).bind R.bl?).bind _ = _
  cases evP T n a Γ with
  | none => rfl
  | some r =>
    show r.bl?.bind _ = r.bl?.bind _
    congr 1
    funext p
    unfold orK2 blK
    cases evP T n b Γ <;> rfl
def notB (p : Bool) : R := .im (.bl (!p))
@[simp] theorem notB_eq {p : Bool} : notB p = .im (.bl (!p)) := (rfl)
def notK (r : R) : Option R := r.bl?.map notB
@[simp] theorem notK_eq {r : R} : notK r = r.bl?.map notB := (rfl)
@[simp] theorem evP_not {a : PE} : evP T (n + 1) (.not a) Γ = (evP T n a Γ).bind notK := by
  show ((evP T n a Γ).bind R.bl?).map _ = _
  cases evP T n a Γ <;> rfl
def negI (p : Int) : R := .im (.int (-p))
@[simp] theorem negI_eq {p : Int} : negI p = .im (.int (-p)) := (rfl)
def negK (r : R) : Option R := r.int?.map negI
@[simp] theorem negK_eq {r : R} : negK r = r.int?.map negI := (rfl)
@[simp] theorem evP_neg {a : PE} : evP T (n + 1) (.neg a) Γ = (evP T n a Γ).bind negK := by
  show ((evP T n a Γ).bind R.int?).map _ = _
  cases evP T n a Γ <;> rfl
noncomputable def iteK2 (T : Tb) (n : Nat) (Γ : List Slot) (a b : PE) (p : Bool) : Option R := if p = true then evP T n a Γ else evP T n b Γ
@[simp] theorem iteK2_eq {a b : PE} {p : Bool} : iteK2 T n Γ a b p = if p = true then evP T n a Γ else evP T n b Γ := (rfl)
noncomputable def iteK (T : Tb) (n : Nat) (Γ : List Slot) (a b : PE) (r : R) : Option R := r.bl?.bind (iteK2 T n Γ a b)
@[simp] theorem iteK_eq {a b : PE} {r : R} : iteK T n Γ a b r = r.bl?.bind (iteK2 T n Γ a b) := (rfl)
@[simp] theorem evP_ite {c a b : PE} : evP T (n + 1) (.ite c a b) Γ = (evP T n c Γ).bind (iteK T n Γ a b) := by
  show ((evP T n c Γ).bind R.bl?).bind _ = _
  cases evP T n c Γ <;> rfl
noncomputable def tupK (ds : List D) : Option R := gd (ds.length ≤ sizeLine) (.im (.tup ds))
@[simp] theorem tupK_eq {ds : List D} : tupK ds = gd (ds.length ≤ sizeLine) (.im (.tup ds)) := (rfl)
noncomputable def lstK (ds : List D) : Option R := gd (ds.length ≤ sizeLine) (.ow (.lst ds))
@[simp] theorem lstK_eq {ds : List D} : lstK ds = gd (ds.length ≤ sizeLine) (.ow (.lst ds)) := (rfl)
@[simp] theorem evP_tup {es : List PE} : evP T (n + 1) (.tup es) Γ = (evds T n Γ es).bind tupK := (rfl)
@[simp] theorem evP_lst {es : List PE} : evP T (n + 1) (.lst es) Γ = (evds T n Γ es).bind lstK := (rfl)
noncomputable def ixK (T : Tb) (n : Nat) (Γ : List Slot) (b : PE) (ra : R) : Option R := (evP T n b Γ).bind (ixR ra)
@[simp] theorem ixK_eq {b : PE} {ra : R} : ixK T n Γ b ra = (evP T n b Γ).bind (ixR ra) := (rfl)
@[simp] theorem evP_ix {a b : PE} : evP T (n + 1) (.ix a b) Γ = (evP T n a Γ).bind (ixK T n Γ b) := (rfl)
/-- a bound of a slice -/
noncomputable def evo (T : Tb) (n : Nat) (Γ : List Slot) (o : Option PE) : Option (Option Int) := optI (fun e => evP T n e Γ) o
def somK (r : R) : Option (Option Int) := r.int?.map some
@[simp] theorem somK_eq {r : R} : somK r = r.int?.map some := (rfl)
@[simp] theorem evo_none : evo T n Γ none = some none := (rfl)
@[simp] theorem evo_some {e : PE} : evo T n Γ (some e) = (evP T n e Γ).bind somK := by
  show ((evP T n e Γ).bind R.int?).map some = _
  cases evP T n e Γ <;> rfl
noncomputable def slK2 (T : Tb) (n : Nat) (Γ : List Slot) (hi : Option PE) (ra : R) (l : Option Int) : Option R := (evo T n Γ hi).bind (slR ra l)
@[simp] theorem slK2_eq {hi : Option PE} {ra : R} {l : Option Int} : slK2 T n Γ hi ra l = (evo T n Γ hi).bind (slR ra l) := (rfl)
noncomputable def slK (T : Tb) (n : Nat) (Γ : List Slot) (lo hi : Option PE) (ra : R) : Option R := (evo T n Γ lo).bind (slK2 T n Γ hi ra)
@[simp] theorem slK_eq {lo hi : Option PE} {ra : R} : slK T n Γ lo hi ra = (evo T n Γ lo).bind (slK2 T n Γ hi ra) := (rfl)
@[simp] theorem evP_sl {a : PE} {lo hi : Option PE} : evP T (n + 1) (.sl a lo hi) Γ = (evP T n a Γ).bind (slK T n Γ lo hi) := (rfl)
@[simp] theorem evP_rev {a : PE} : evP T (n + 1) (.rev a) Γ = (evP T n a Γ).bind revR := (rfl)
/-- a field of an instance -/
def fldR (T : Tb) (c : Nat) (f : Str) (ra : R) : Option R := match ra with
  | .im (.ins C fs) => if C = T.cls c then (fs.lookup f).map .im else none
  | .vo (.ins C fs) => if C = T.cls c then (fs.lookup f).map .im else none
  | _ => none
@[simp] theorem evP_fld {c : Nat} {a : PE} {f : Str} : evP T (n + 1) (.fld c a f) Γ = (evP T n a Γ).bind (fldR T c f) := (rfl)
@[simp] theorem fldR_im {c : Nat} {f : Str} {C : Addr} {fs : List (Str × D)} : fldR T c f (.im (.ins C fs)) = if C = T.cls c then (fs.lookup f).map .im else none := (rfl)
@[simp] theorem fldR_vo {c : Nat} {f : Str} {C : Addr} {fs : List (Str × D)} : fldR T c f (.vo (.ins C fs)) = if C = T.cls c then (fs.lookup f).map .im else none := (rfl)
noncomputable def calK (T : Tb) (j : Nat) (ds : List D) : Option R := (T.call j (ds.map Slot.im)).bind retO
@[simp] theorem calK_eq {j : Nat} {ds : List D} : calK T j ds = (T.call j (ds.map Slot.im)).bind retO := (rfl)
theorem ret_eq {o : Option Out} : (match o with | some (.ret r _) => some r | _ => none) = o.bind retO := by
  cases o with
  | none => rfl
  | some o => cases o <;> rfl
@[simp] theorem evP_call {j : Nat} {es : List PE} : evP T (n + 1) (.call j es) Γ = (evds T n Γ es).bind (calK T j) := by
  show (evds T n Γ es).bind _ = _
  congr 1
  funext ds
  exact ret_eq
@[simp] theorem evP_call0 {j : Nat} : evP T (n + 1) (.call0 j) Γ = (T.call j []).bind retO := ret_eq
/-- a method of an instance of this class -/
noncomputable def metK2 (T : Tb) (j : Nat) (C : Addr) (fl : List (Str × D)) (ds : List D) : Option R := if C = T.cls (T.meth j).1 ∧ fl.lookup (T.mnm j) = none then (T.call (T.meth j).2 (.im (.ins C fl) :: ds.map Slot.im)).bind retO else none
@[simp] theorem metK2_eq {j : Nat} {C : Addr} {fl : List (Str × D)} {ds : List D} : metK2 T j C fl ds = if C = T.cls (T.meth j).1 ∧ fl.lookup (T.mnm j) = none then (T.call (T.meth j).2 (.im (.ins C fl) :: ds.map Slot.im)).bind retO else none := (rfl)
noncomputable def metK (T : Tb) (n : Nat) (Γ : List Slot) (j : Nat) (es : List PE) : R → Option R
  | .im (.ins C fl) => (evds T n Γ es).bind (metK2 T j C fl)
  | _ => none
@[simp] theorem metK_ins {j : Nat} {C : Addr} {fl : List (Str × D)} {es : List PE} : metK T n Γ j es (.im (.ins C fl)) = (evds T n Γ es).bind (metK2 T j C fl) := (rfl)
@[simp] theorem evP_meth {j : Nat} {o : PE} {es : List PE} : evP T (n + 1) (.meth j o es) Γ = (evP T n o Γ).bind (metK T n Γ j es) := by
  show (evP T n o Γ).bind _ = _
  congr 1
  funext ro
  cases ro with
  | im d =>
    cases d with
    | ins C fl =>
      show (evds T n Γ es).bind _ = (evds T n Γ es).bind _
      congr 1
      funext ds
      show (if C = T.cls (T.meth j).1 ∧ fl.lookup (T.mnm j) = none then _ else _) = (if C = T.cls (T.meth j).1 ∧ fl.lookup (T.mnm j) = none then _ else _)
      split
      · exact ret_eq
      · rfl
    | _ => rfl
  | _ => rfl
/-- what a making hands on -/
def makO (T : Tb) (c : Nat) : Out → Option R
  | .ret (.im .non) (.mu (.ins C fl) :: _) => if C = T.cls c ∧ fl.length = T.full c then some (.im (.ins C fl)) else none
  | _ => none
noncomputable def makK (T : Tb) (c : Nat) (ds : List D) : Option R := (T.call (T.init c).1 (.mu (.ins (T.cls c) []) :: (ds ++ (T.init c).2).map Slot.im)).bind (makO T c)
@[simp] theorem makK_eq {c : Nat} {ds : List D} : makK T c ds = (T.call (T.init c).1 (.mu (.ins (T.cls c) []) :: (ds ++ (T.init c).2).map Slot.im)).bind (makO T c) := (rfl)
@[simp] theorem evP_make {c : Nat} {es : List PE} : evP T (n + 1) (.make c es) Γ = (evds T n Γ es).bind (makK T c) := by
  show (evds T n Γ es).bind _ = _
  congr 1
  funext ds
  show (match T.call (T.init c).1 (.mu (.ins (T.cls c) []) :: argS (ds ++ (T.init c).2)) with
        | some (.ret (.im .non) (.mu (.ins C fl) :: _)) => if C = T.cls c ∧ fl.length = T.full c then some (R.im (.ins C fl)) else none
        | _ => none) = (T.call (T.init c).1 (.mu (.ins (T.cls c) []) :: argS (ds ++ (T.init c).2))).bind (makO T c)
  generalize T.call (T.init c).1 (.mu (.ins (T.cls c) []) :: argS (ds ++ (T.init c).2)) = z
  cases z with
  | none => rfl
  | some o =>
    cases o with
    | exc _ _ _ => rfl
    | ret r fs =>
      cases r with
      | im d =>
        cases d with
        | non =>
          cases fs with
          | nil => rfl
          | cons s fs =>
            cases s with
            | mu m => cases m <;> rfl
            | _ => rfl
        | _ => rfl
      | _ => rfl
@[simp] theorem makO_ok {c : Nat} {C : Addr} {fl : List (Str × D)} {fs : List Slot} : makO T c (.ret (.im .non) (.mu (.ins C fl) :: fs)) = if C = T.cls c ∧ fl.length = T.full c then some (.im (.ins C fl)) else none := (rfl)
@[simp] theorem evP_bi {f : Bi} {es : List PE} : evP T (n + 1) (.bi f es) Γ = (evs T n Γ es).bind (biR f) := (rfl)
def isiK2 (T : Tb) (t : Ty) (d : D) : Option R := (isiD T.cls d t).map blR
@[simp] theorem isiK2_eq {t : Ty} {d : D} : isiK2 T t d = (isiD T.cls d t).map blR := (rfl)
def isiK (T : Tb) (t : Ty) (r : R) : Option R := r.lookD.bind (isiK2 T t)
@[simp] theorem isiK_eq {t : Ty} {r : R} : isiK T t r = r.lookD.bind (isiK2 T t) := (rfl)
@[simp] theorem evP_isi {a : PE} {t : Ty} : evP T (n + 1) (.isi a t) Γ = (evP T n a Γ).bind (isiK T t) := by
  show ((evP T n a Γ).bind R.lookD).bind _ = _
  cases evP T n a Γ <;> rfl
/-- == by an own def -/
def oeqO : Out → Option R
  | .ret (.im (.bl q)) _ => some (.im (.bl q))
  | _ => none
@[simp] theorem oeqO_bl {q : Bool} {fs : List Slot} : oeqO (.ret (.im (.bl q)) fs) = some (.im (.bl q)) := (rfl)
noncomputable def oeqR (T : Tb) (m : Nat) : R → R → Option R
  | .im (.ins C fl), .im (.ins C' gl) => if C = T.cls (T.meth m).1 ∧ C' = C then (T.call (T.meth m).2 [.im (.ins C fl), .im (.ins C' gl)]).bind oeqO else none
  | _, _ => none
@[simp] theorem oeqR_ins {m : Nat} {C C' : Addr} {fl gl : List (Str × D)} : oeqR T m (.im (.ins C fl)) (.im (.ins C' gl)) = if C = T.cls (T.meth m).1 ∧ C' = C then (T.call (T.meth m).2 [.im (.ins C fl), .im (.ins C' gl)]).bind oeqO else none := (rfl)
noncomputable def oeqK (T : Tb) (n : Nat) (Γ : List Slot) (m : Nat) (b : PE) (ra : R) : Option R := (evP T n b Γ).bind (oeqR T m ra)
@[simp] theorem oeqK_eq {m : Nat} {b : PE} {ra : R} : oeqK T n Γ m b ra = (evP T n b Γ).bind (oeqR T m ra) := (rfl)
@[simp] theorem evP_oeq {m : Nat} {a b : PE} : evP T (n + 1) (.oeq m a b) Γ = (evP T n a Γ).bind (oeqK T n Γ m b) := by
  show (evP T n a Γ).bind _ = _
  congr 1
  funext ra
  show (evP T n b Γ).bind _ = (evP T n b Γ).bind _
  congr 1
  funext rb
  cases ra with
  | im d =>
    cases rb with
    | im e =>
      cases d with
      | ins C fl =>
        cases e with
        | ins C' gl =>
          show (if C = T.cls (T.meth m).1 ∧ C' = C then _ else _) = (if C = T.cls (T.meth m).1 ∧ C' = C then _ else _)
          split
          · show _ = (T.call (T.meth m).2 (argS [.ins C fl, .ins C' gl])).bind oeqO
            generalize T.call (T.meth m).2 (argS [.ins C fl, .ins C' gl]) = z
            cases z with
            | none => rfl
            | some o =>
              cases o with
              | exc _ _ _ => rfl
              | ret r fs =>
                cases r with
                | im d => cases d <;> rfl
                | _ => rfl
          · rfl
        | _ => rfl
      | _ => rfl
    | _ => cases d <;> rfl
  | _ => cases rb <;> rfl
@[simp] theorem evP_kd {j : Nat} : evP T (n + 1) (.kd j) Γ = some (.im (.ref (T.kd j).1)) := (rfl)
def kinR (T : Tb) (neg : Bool) (j : Nat) : R → Option R
  | .im (.str z) => some (.im (.bl (if neg then !((T.kd j).2.lookup z).isSome else ((T.kd j).2.lookup z).isSome)))
  | _ => none
@[simp] theorem evP_kin {neg : Bool} {a : PE} {j : Nat} : evP T (n + 1) (.kin neg a j) Γ = (evP T n a Γ).bind (kinR T neg j) := (rfl)
@[simp] theorem kinR_str {neg : Bool} {j : Nat} {z : Str} : kinR T neg j (.im (.str z)) = some (.im (.bl (if neg then !((T.kd j).2.lookup z).isSome else ((T.kd j).2.lookup z).isSome))) := (rfl)
def kgetR (T : Tb) (j : Nat) : R → Option R
  | .im (.str z) => ((T.kd j).2.lookup z).map .im
  | _ => none
@[simp] theorem evP_kget {a : PE} {j : Nat} : evP T (n + 1) (.kget j a) Γ = (evP T n a Γ).bind (kgetR T j) := (rfl)
@[simp] theorem kgetR_str {j : Nat} {z : Str} : kgetR T j (.im (.str z)) = ((T.kd j).2.lookup z).map .im := (rfl)
noncomputable def cavK2 (T : Tb) (n : Nat) (Γ : List Slot) (es : List PE) (j : Nat) : Option R := (evds T n Γ es).bind (calK T j)
@[simp] theorem cavK2_eq {j : Nat} {es : List PE} : cavK2 T n Γ es j = (evds T n Γ es).bind (calK T j) := (rfl)
noncomputable def cavK (T : Tb) (n : Nat) (Γ : List Slot) (es : List PE) : Slot → Option R
  | .im (.ref a) => (T.fns.find? fun j => T.adr j = a).bind (cavK2 T n Γ es)
  | _ => none
@[simp] theorem cavK_ref {a : Addr} {es : List PE} : cavK T n Γ es (.im (.ref a)) = (T.fns.find? fun j => T.adr j = a).bind (cavK2 T n Γ es) := (rfl)
@[simp] theorem evP_callV {i : Nat} {es : List PE} : evP T (n + 1) (.callV i es) Γ = (Γ[i]?).bind (cavK T n Γ es) := by
  show (match Γ[i]? with | some (.im (.ref a)) => _ | _ => none) = _
  cases Γ[i]? with
  | none => rfl
  | some s =>
    cases s with
    | im d =>
      cases d with
      | ref a =>
        show (T.fns.find? fun j => T.adr j = a).bind _ = (T.fns.find? fun j => T.adr j = a).bind _
        congr 1
        funext j
        show (evds T n Γ es).bind _ = (evds T n Γ es).bind _
        congr 1
        funext ds
        exact ret_eq
      | _ => rfl
    | _ => rfl
noncomputable def cakK (T : Tb) (q : Nat) (ds : List D) : Option R := if ds.length = (T.kw q).2.length then (T.call (T.kw q).1 ((T.kw q).2.map fun i => Slot.im (ds.getD i .non))).bind retO else none
@[simp] theorem cakK_eq {q : Nat} {ds : List D} : cakK T q ds = if ds.length = (T.kw q).2.length then (T.call (T.kw q).1 ((T.kw q).2.map fun i => Slot.im (ds.getD i .non))).bind retO else none := (rfl)
@[simp] theorem evP_callK {q : Nat} {es : List PE} : evP T (n + 1) (.callK q es) Γ = (evds T n Γ es).bind (cakK T q) := by
  show (evds T n Γ es).bind _ = _
  congr 1
  funext ds
  show (if ds.length = (T.kw q).2.length then _ else _) = (if ds.length = (T.kw q).2.length then _ else _)
  split
  · rw [show ((T.kw q).2.map fun i => Slot.im (ds.getD i .non)) = argS ((T.kw q).2.map fun i => ds.getD i .non) by unfold argS; rw [List.map_map]; rfl]
    exact ret_eq
  · rfl
/-! ### comprehensions -/
theorem lcRun_map {f : D → Option (Option D)} {g : D → D} : ∀ {ds : List D}, (∀ d ∈ ds, f d = some (some (g d))) → lcRun f ds = some (ds.map g)
  | [], _ => rfl
  | d :: ds, h => by
    show (match f d with | none => none | some none => lcRun f ds | some (some y) => match lcRun f ds with | some ys => some (y :: ys) | none => none) = _
    rw [h d List.mem_cons_self, lcRun_map fun x m => h x (List.mem_cons_of_mem _ m)]
    rfl
theorem lcRun_filter {f : D → Option (Option D)} {p : D → Bool} {g : D → D} : ∀ {ds : List D}, (∀ d ∈ ds, f d = some (if p d then some (g d) else none)) → lcRun f ds = some ((ds.filter p).map g)
  | [], _ => rfl
  | d :: ds, h => by
    show (match f d with | none => none | some none => lcRun f ds | some (some y) => match lcRun f ds with | some ys => some (y :: ys) | none => none) = _
    rw [h d List.mem_cons_self, lcRun_filter fun x m => h x (List.mem_cons_of_mem _ m), List.filter_cons]
    cases p d <;> rfl
/-- a comprehension without a test, item by item -/
theorem evP_lc {vs : List Nat} {k : ItK} {it : List PE} {e : PE} {rs : List R} {ds : List D} {g : D → D} (h1 : evs T n Γ it = some rs) (h2 : itK T k it rs = some ds) (h3 : ds.length ≤ sizeLine)
    (h4 : ∀ d ∈ ds, ∃ Γ', bindL vs d Γ = some Γ' ∧ (evP T n e Γ').bind R.toD = some (g d)) : evP T (n + 1) (.lc vs k it none e) Γ = some (.ow (.lst (ds.map g))) := by
  show (evs T n Γ it).bind _ = _
  rw [h1]
  show (itK T k it rs).bind _ = _
  rw [h2]
  show (if ds.length ≤ sizeLine then _ else _) = _
  rw [if_pos h3, lcRun_map (g := g) fun d m => ?_]
  · rfl
  · obtain ⟨Γ', b1, b2⟩ := h4 d m
    rw [b1]
    show ((evP T n e Γ').bind R.toD).map some = _
    rw [b2]
    rfl
/-- .. with a test -/
theorem evP_lcIf {vs : List Nat} {k : ItK} {it : List PE} {c e : PE} {rs : List R} {ds : List D} {p : D → Bool} {g : D → D} (h1 : evs T n Γ it = some rs) (h2 : itK T k it rs = some ds) (h3 : ds.length ≤ sizeLine)
    (h4 : ∀ d ∈ ds, ∃ Γ', bindL vs d Γ = some Γ' ∧ evP T n c Γ' = some (.im (.bl (p d))) ∧ (p d = true → (evP T n e Γ').bind R.toD = some (g d))) : evP T (n + 1) (.lc vs k it (some c) e) Γ = some (.ow (.lst ((ds.filter p).map g))) := by
  show (evs T n Γ it).bind _ = _
  rw [h1]
  show (itK T k it rs).bind _ = _
  rw [h2]
  show (if ds.length ≤ sizeLine then _ else _) = _
  rw [if_pos h3, lcRun_filter (g := g) (p := p) fun d m => ?_]
  · rfl
  · obtain ⟨Γ', b1, b2, b3⟩ := h4 d m
    rw [b1]
    show ((evP T n c Γ').bind R.bl?).bind _ = _
    rw [b2]
    show (if p d = true then ((evP T n e Γ').bind R.toD).map some else some none) = _
    cases q : p d with
    | true => rw [b3 q]; rfl
    | false => rfl
theorem lcRun_filterM {α : Type} {f : D → Option (Option D)} {e : α → D} {p : α → Bool} {g : α → D} : ∀ {l : List α}, (∀ a ∈ l, f (e a) = some (if p a then some (g a) else none)) → lcRun f (l.map e) = some ((l.filter p).map g)
  | [], _ => rfl
  | d :: ds, h => by
    show (match f (e d) with | none => none | some none => lcRun f (ds.map e) | some (some y) => match lcRun f (ds.map e) with | some ys => some (y :: ys) | none => none) = _
    rw [h d List.mem_cons_self, lcRun_filterM fun x m => h x (List.mem_cons_of_mem _ m), List.filter_cons]
    cases p d <;> rfl
/-- .. with a test, over a mapped list -/
theorem evP_lcM {α : Type} {vs : List Nat} {k : ItK} {it : List PE} {c e : PE} {rs : List R} {l : List α} {f : α → D} {p : α → Bool} {g : α → D} (h1 : evs T n Γ it = some rs) (h2 : itK T k it rs = some (l.map f)) (h3 : l.length ≤ sizeLine)
    (h4 : ∀ a ∈ l, ∃ Γ', bindL vs (f a) Γ = some Γ' ∧ evP T n c Γ' = some (.im (.bl (p a))) ∧ (p a = true → (evP T n e Γ').bind R.toD = some (g a))) : evP T (n + 1) (.lc vs k it (some c) e) Γ = some (.ow (.lst ((l.filter p).map g))) := by
  show (evs T n Γ it).bind _ = _
  rw [h1]
  show (itK T k it rs).bind _ = _
  rw [h2]
  show (if (l.map f).length ≤ sizeLine then _ else _) = _
  rw [if_pos (by simpa using h3), lcRun_filterM (g := g) (p := p) fun d m => ?_]
  · rfl
  · obtain ⟨Γ', b1, b2, b3⟩ := h4 d m
    rw [b1]
    show ((evP T n c Γ').bind R.bl?).bind _ = _
    rw [b2]
    show (if p d = true then ((evP T n e Γ').bind R.toD).map some else some none) = _
    cases q : p d with
    | true => rw [b3 q]; rfl
    | false => rfl
/-- over range(m) -/
theorem evP_lcR {i : Nat} {b e : PE} {m : Nat} {g : Nat → D} (h1 : evP T n b Γ = some (.im (.int m))) (h2 : m ≤ sizeLine) (h3 : i < Γ.length)
    (h4 : ∀ k, k < m → (evP T n e (Γ.set i (.im (.int k)))).bind R.toD = some (g k)) : evP T (n + 1) (.lc [i] .range1 [b] none e) Γ = some (.ow (.lst ((List.range m).map g))) := by
  have hs : (2 : Int) ^ 62 = 4611686018427387904 := by decide
  have hz : sizeLine = 16777216 := by decide
  rw [evP_lc (rs := [.im (.int m)]) (ds := (List.range m).map fun k => .int ((k : Nat) : Int)) (g := fun d => match d with | .int k => g k.toNat | _ => .non)]
  · rw [List.map_map]; rfl
  · simp [h1]
  · show itR .range1 [.im (.int m)] = _
    show gd _ _ = _
    rw [gd_pos (by rw [hs]; omega)]
    simp
  · simpa using h2
  · intro d hd
    obtain ⟨k, hk, rfl⟩ := List.mem_map.mp hd
    refine ⟨_, if_pos h3, ?_⟩
    have := h4 k (List.mem_range.mp hk)
    simpa using this
/-- over a sequence -/
theorem evP_lcS {i : Nat} {b e : PE} {r : R} {ds : List D} {g : D → D} (h1 : evP T n b Γ = some r) (h2 : itR .seq [r] = some ds) (hl : ds.length ≤ sizeLine) (h3 : i < Γ.length)
    (h4 : ∀ d ∈ ds, (evP T n e (Γ.set i (.im d))).bind R.toD = some (g d)) : evP T (n + 1) (.lc [i] .seq [b] none e) Γ = some (.ow (.lst (ds.map g))) :=
  evP_lc (rs := [r]) (by simp [h1]) h2 hl fun d hd => ⟨_, if_pos h3, h4 d hd⟩
theorem evP_lcSIf {i : Nat} {b c e : PE} {r : R} {ds : List D} {p : D → Bool} {g : D → D} (h1 : evP T n b Γ = some r) (h2 : itR .seq [r] = some ds) (hl : ds.length ≤ sizeLine) (h3 : i < Γ.length)
    (h4 : ∀ d ∈ ds, evP T n c (Γ.set i (.im d)) = some (.im (.bl (p d))) ∧ (p d = true → (evP T n e (Γ.set i (.im d))).bind R.toD = some (g d))) : evP T (n + 1) (.lc [i] .seq [b] (some c) e) Γ = some (.ow (.lst ((ds.filter p).map g))) :=
  evP_lcIf (rs := [r]) (by simp [h1]) h2 hl fun d hd => ⟨_, if_pos h3, h4 d hd⟩
/-! ### impure terms -/
def wS {α : Type} (Δ : List Slot) (r : α) : α × List Slot := (r, Δ)
@[simp] theorem wS_eq {α : Type} {Δ : List Slot} {r : α} : wS Δ r = (r, Δ) := (rfl)
def consS {α : Type} (d : α) : List α × List Slot → List α × List Slot
  | (ds, Δ) => (d :: ds, Δ)
@[simp] theorem consS_eq {α : Type} {d : α} {ds : List α} {Δ : List Slot} : consS d (ds, Δ) = (d :: ds, Δ) := (rfl)
section
variable {f : IE → List Slot → Option (R × List Slot)} {e : IE} {es : List IE}
def evDK  : R × List Slot → Option (D × List Slot)
  | (r, Δ) => r.toD.map (wS Δ)
@[simp] theorem evDK_eq  {r : R} {Δ : List Slot} : evDK  ((r, Δ)) = r.toD.map (wS Δ) := (rfl)
@[simp] theorem evD_eq : evD f e Γ = (f e Γ).bind evDK := (rfl)
noncomputable def seqDK (f : IE → List Slot → Option (R × List Slot)) (es : List IE) : D × List Slot → Option (List D × List Slot)
  | (d, Δ) => (seqD f es Δ).map (consS d)
@[simp] theorem seqDK_eq {f : IE → List Slot → Option (R × List Slot)} {es : List IE} {d : D} {Δ : List Slot} : seqDK f es ((d, Δ)) = (seqD f es Δ).map (consS d) := (rfl)
@[simp] theorem seqD_nil : seqD f [] Γ = some ([], Γ) := (rfl)
@[simp] theorem seqD_cons : seqD f (e :: es) Γ = (evD f e Γ).bind (seqDK f es) := (rfl)
noncomputable def seqAK (f : IE → List Slot → Option (R × List Slot)) (es : List IE) : A × List Slot → Option (List A × List Slot)
  | (a, Δ) => (seqA f es Δ).map (consS a)
@[simp] theorem seqAK_eq {f : IE → List Slot → Option (R × List Slot)} {es : List IE} {a : A} {Δ : List Slot} : seqAK f es ((a, Δ)) = (seqA f es Δ).map (consS a) := (rfl)
@[simp] theorem seqA_nil : seqA f [] Γ = some ([], Γ) := (rfl)
@[simp] theorem seqA_cons : seqA f (e :: es) Γ = (argA f e Γ).bind (seqAK f es) := (rfl)
def borO (i : Nat) (Γ : List Slot) : Slot → Option (A × List Slot)
  | .ow _ => some (.bor i, Γ)
  | .mu _ => some (.bor i, Γ)
  | _ => none
@[simp] theorem argA_bor {i : Nat} : argA f (.bor i) Γ = (Γ[i]?).bind (borO i Γ) := by
  show (match Γ[i]? with | some (.ow _) => some (A.bor i, Γ) | some (.mu _) => some (.bor i, Γ) | _ => none) = _
  cases Γ[i]? with
  | none => rfl
  | some s => cases s <;> rfl
@[simp] theorem borO_ow {i : Nat} {m : M} : borO i Γ (.ow m) = some (.bor i, Γ) := (rfl)
@[simp] theorem borO_mu {i : Nat} {m : M} : borO i Γ (.mu m) = some (.bor i, Γ) := (rfl)
def tmpO : R × List Slot → Option (A × List Slot)
  | (.ow m, Γ) => some (.tmp m, Γ)
  | _ => none
@[simp] theorem argA_tmp : argA f (.tmp e) Γ = (f (.tmp e) Γ).bind tmpO := by
  show (f (.tmp e) Γ).bind _ = _
  congr 1
  funext x
  obtain ⟨r, Γ'⟩ := x
  cases r <;> rfl
@[simp] theorem tmpO_ow {m : M} : tmpO (.ow m, Γ) = some (.tmp m, Γ) := (rfl)
def imA : D × List Slot → A × List Slot
  | (d, Δ) => (.im d, Δ)
@[simp] theorem imA_eq {d : D} {Δ : List Slot} : imA (d, Δ) = (.im d, Δ) := (rfl)
@[simp] theorem argA_p {a : PE} : argA f (.p a) Γ = (evD f (.p a) Γ).map imA := (rfl)
@[simp] theorem argA_not {a : IE} : argA f (.not a) Γ = (evD f (.not a) Γ).map imA := (rfl)
@[simp] theorem argA_sl {a : IE} {lo hi : Option PE} : argA f (.sl a lo hi) Γ = (evD f (.sl a lo hi) Γ).map imA := (rfl)
@[simp] theorem argA_bin {op : Operator} {a b : IE} : argA f (.bin op a b) Γ = (evD f (.bin op a b) Γ).map imA := (rfl)
@[simp] theorem argA_cmp {op : CmpOp} {a b : IE} : argA f (.cmp op a b) Γ = (evD f (.cmp op a b) Γ).map imA := (rfl)
@[simp] theorem argA_tup {a : List IE} : argA f (.tup a) Γ = (evD f (.tup a) Γ).map imA := (rfl)
@[simp] theorem argA_lst {a : List IE} : argA f (.lst a) Γ = (evD f (.lst a) Γ).map imA := (rfl)
@[simp] theorem argA_ix {a b : IE} : argA f (.ix a b) Γ = (evD f (.ix a b) Γ).map imA := (rfl)
@[simp] theorem argA_bi {g : Bi} {a : List IE} : argA f (.bi g a) Γ = (evD f (.bi g a) Γ).map imA := (rfl)
@[simp] theorem argA_call {j : Nat} {a : List IE} : argA f (.call j a) Γ = (evD f (.call j a) Γ).map imA := (rfl)
@[simp] theorem argA_lc {vs : List Nat} {k : ItK} {it : List PE} {a : IE} : argA f (.lc vs k it a) Γ = (evD f (.lc vs k it a) Γ).map imA := (rfl)
@[simp] theorem argA_lcI {vs : List Nat} {k : ItK} {it a : IE} : argA f (.lcI vs k it a) Γ = (evD f (.lcI vs k it a) Γ).map imA := (rfl)
end
@[simp] theorem argz_nil : argz Γ [] = some [] := (rfl)
@[simp] theorem argzz_im {d : D} {as : List A} : argz Γ (.im d :: as) = (argz Γ as).map (List.cons (.im d)) := (rfl)
@[simp] theorem argz_tmp {m : M} {as : List A} : argz Γ (.tmp m :: as) = (argz Γ as).map (List.cons (.mu m)) := (rfl)
def muO : Slot → Option Slot
  | .ow m => some (.mu m)
  | .mu m => some (.mu m)
  | _ => none
@[simp] theorem muO_ow {m : M} : muO (.ow m) = some (.mu m) := (rfl)
@[simp] theorem muO_mu {m : M} : muO (.mu m) = some (.mu m) := (rfl)
def argzK2 (Γ : List Slot) (as : List A) (s : Slot) : Option (List Slot) := (argz Γ as).map (List.cons s)
@[simp] theorem argzK2_eq {as : List A} {s : Slot} : argzK2 Γ as s = (argz Γ as).map (List.cons s) := (rfl)
def argzK (Γ : List Slot) (as : List A) (s : Slot) : Option (List Slot) := (muO s).bind (argzK2 Γ as)
@[simp] theorem argzK_eq {as : List A} {s : Slot} : argzK Γ as s = (muO s).bind (argzK2 Γ as) := (rfl)
@[simp] theorem argz_bor {i : Nat} {as : List A} : argz Γ (.bor i :: as) = (Γ[i]?).bind (argzK Γ as) := by
  show (match Γ[i]? with | some (.ow m) => (argz Γ as).map (Slot.mu m :: ·) | some (.mu m) => (argz Γ as).map (.mu m :: ·) | _ => none) = _
  cases Γ[i]? with
  | none => rfl
  | some s => cases s <;> rfl
@[simp] theorem wb_nil {fs : List Slot} : wb Γ [] fs = some Γ := by cases fs <;> rfl
@[simp] theorem wb_im {d : D} {as : List A} {s : Slot} {fs : List Slot} : wb Γ (.im d :: as) (s :: fs) = wb Γ as fs := (rfl)
@[simp] theorem wb_tmp {m : M} {as : List A} {s : Slot} {fs : List Slot} : wb Γ (.tmp m :: as) (s :: fs) = wb Γ as fs := (rfl)
def bakO (m : M) : Slot → Option Slot
  | .ow _ => some (.ow m)
  | .mu _ => some (.mu m)
  | _ => none
@[simp] theorem bakO_ow {m m' : M} : bakO m (.ow m') = some (.ow m) := (rfl)
@[simp] theorem bakO_mu {m m' : M} : bakO m (.mu m') = some (.mu m) := (rfl)
def wbK2 (Γ : List Slot) (i : Nat) (as : List A) (fs : List Slot) (s : Slot) : Option (List Slot) := wb (Γ.set i s) as fs
@[simp] theorem wbK2_eq {i : Nat} {as : List A} {fs : List Slot} {s : Slot} : wbK2 Γ i as fs s = wb (Γ.set i s) as fs := (rfl)
def wbK (Γ : List Slot) (i : Nat) (m : M) (as : List A) (fs : List Slot) (s : Slot) : Option (List Slot) := (bakO m s).bind (wbK2 Γ i as fs)
@[simp] theorem wbK_eq {i : Nat} {m : M} {as : List A} {fs : List Slot} {s : Slot} : wbK Γ i m as fs s = (bakO m s).bind (wbK2 Γ i as fs) := (rfl)
@[simp] theorem wb_bor {i : Nat} {as : List A} {m : M} {fs : List Slot} : wb Γ (.bor i :: as) (.mu m :: fs) = (Γ[i]?).bind (wbK Γ i m as fs) := by
  show (match Γ[i]? with | some (.ow _) => wb (Γ.set i (.ow m)) as fs | some (.mu _) => wb (Γ.set i (.mu m)) as fs | _ => none) = _
  cases Γ[i]? with
  | none => rfl
  | some s => cases s <;> rfl
@[simp] theorem evI_p {e : PE} : evI T np (n + 1) (.p e) Γ = (evP T np e Γ).map (wS Γ) := (rfl)
@[simp] theorem evI_tmp {e : IE} : evI T np (n + 1) (.tmp e) Γ = evI T np n e Γ := (rfl)
def inotB (Δ : List Slot) (p : Bool) : R × List Slot := (.im (.bl (!p)), Δ)
@[simp] theorem inotB_eq {Δ : List Slot} {p : Bool} : inotB Δ p = (.im (.bl (!p)), Δ) := (rfl)
def inotK  : R × List Slot → Option (R × List Slot)
  | (r, Δ) => r.bl?.map (inotB Δ)
@[simp] theorem inotK_eq  {r : R} {Δ : List Slot} : inotK  ((r, Δ)) = r.bl?.map (inotB Δ) := (rfl)
@[simp] theorem evI_not {a : IE} : evI T np (n + 1) (.not a) Γ = (evI T np n a Γ).bind inotK := (rfl)
noncomputable def islK3 (d : D) (Δ : List Slot) (l u : Option Int) : Option (R × List Slot) := (slR (.im d) l u).map (wS Δ)
@[simp] theorem islK3_eq {d : D} {Δ : List Slot} {l u : Option Int} : islK3 d Δ l u = (slR (.im d) l u).map (wS Δ) := (rfl)
noncomputable def islK2 (T : Tb) (np : Nat) (hi : Option PE) (d : D) (Δ : List Slot) (l : Option Int) : Option (R × List Slot) := (evo T np Δ hi).bind (islK3 d Δ l)
@[simp] theorem islK2_eq {hi : Option PE} {d : D} {Δ : List Slot} {l : Option Int} : islK2 T np hi d Δ l = (evo T np Δ hi).bind (islK3 d Δ l) := (rfl)
noncomputable def islK (T : Tb) (np : Nat) (lo : Option PE) (hi : Option PE) : D × List Slot → Option (R × List Slot)
  | (d, Δ) => (evo T np Δ lo).bind (islK2 T np hi d Δ)
@[simp] theorem islK_eq {T : Tb} {np : Nat} {lo : Option PE} {hi : Option PE} {d : D} {Δ : List Slot} : islK T np lo hi ((d, Δ)) = (evo T np Δ lo).bind (islK2 T np hi d Δ) := (rfl)
@[simp] theorem evI_sl {a : IE} {lo hi : Option PE} : evI T np (n + 1) (.sl a lo hi) Γ = (evD (evI T np n) a Γ).bind (islK T np lo hi) := (rfl)
noncomputable def ibinK2 (op : Operator) (d : D) : D × List Slot → Option (R × List Slot)
  | (d', Δ) => (binR op (.im d) (.im d')).map (wS Δ)
@[simp] theorem ibinK2_eq {op : Operator} {d d' : D} {Δ : List Slot} : ibinK2 op d (d', Δ) = (binR op (.im d) (.im d')).map (wS Δ) := (rfl)
noncomputable def ibinK (f : IE → List Slot → Option (R × List Slot)) (op : Operator) (b : IE) : D × List Slot → Option (R × List Slot)
  | (d, Δ) => (evD f b Δ).bind (ibinK2 op d)
@[simp] theorem ibinK_eq {f : IE → List Slot → Option (R × List Slot)} {op : Operator} {b : IE} {d : D} {Δ : List Slot} : ibinK f op b ((d, Δ)) = (evD f b Δ).bind (ibinK2 op d) := (rfl)
@[simp] theorem evI_bin {op : Operator} {a b : IE} : evI T np (n + 1) (.bin op a b) Γ = (evD (evI T np n) a Γ).bind (ibinK (evI T np n) op b) := (rfl)
def cmS (Δ : List Slot) (q : Bool) : R × List Slot := (.im (.bl q), Δ)
@[simp] theorem cmS_eq {Δ : List Slot} {q : Bool} : cmS Δ q = (.im (.bl q), Δ) := (rfl)
noncomputable def icmpK2 (op : CmpOp) (d : D) : D × List Slot → Option (R × List Slot)
  | (d', Δ) => (cmpR op (.im d) (.im d')).map (cmS Δ)
@[simp] theorem icmpK2_eq {op : CmpOp} {d d' : D} {Δ : List Slot} : icmpK2 op d (d', Δ) = (cmpR op (.im d) (.im d')).map (cmS Δ) := (rfl)
noncomputable def icmpK (f : IE → List Slot → Option (R × List Slot)) (op : CmpOp) (b : IE) : D × List Slot → Option (R × List Slot)
  | (d, Δ) => (evD f b Δ).bind (icmpK2 op d)
@[simp] theorem icmpK_eq {f : IE → List Slot → Option (R × List Slot)} {op : CmpOp} {b : IE} {d : D} {Δ : List Slot} : icmpK f op b ((d, Δ)) = (evD f b Δ).bind (icmpK2 op d) := (rfl)
@[simp] theorem evI_cmp {op : CmpOp} {a b : IE} : evI T np (n + 1) (.cmp op a b) Γ = (evD (evI T np n) a Γ).bind (icmpK (evI T np n) op b) := (rfl)
noncomputable def itupK  : List D × List Slot → Option (R × List Slot)
  | (ds, Δ) => gd (ds.length ≤ sizeLine) (.im (.tup ds), Δ)
@[simp] theorem itupK_eq  {ds : List D} {Δ : List Slot} : itupK  ((ds, Δ)) = gd (ds.length ≤ sizeLine) (.im (.tup ds), Δ) := (rfl)
@[simp] theorem evI_tup {es : List IE} : evI T np (n + 1) (.tup es) Γ = (seqD (evI T np n) es Γ).bind itupK := (rfl)
noncomputable def ilstK  : List D × List Slot → Option (R × List Slot)
  | (ds, Δ) => gd (ds.length ≤ sizeLine) (.ow (.lst ds), Δ)
@[simp] theorem ilstK_eq  {ds : List D} {Δ : List Slot} : ilstK  ((ds, Δ)) = gd (ds.length ≤ sizeLine) (.ow (.lst ds), Δ) := (rfl)
@[simp] theorem evI_lst {es : List IE} : evI T np (n + 1) (.lst es) Γ = (seqD (evI T np n) es Γ).bind ilstK := (rfl)
noncomputable def iixK2 (d : D) : D × List Slot → Option (R × List Slot)
  | (d', Δ) => (ixR (.im d) (.im d')).map (wS Δ)
@[simp] theorem iixK2_eq {d d' : D} {Δ : List Slot} : iixK2 d (d', Δ) = (ixR (.im d) (.im d')).map (wS Δ) := (rfl)
noncomputable def iixK (f : IE → List Slot → Option (R × List Slot)) (b : IE) : D × List Slot → Option (R × List Slot)
  | (d, Δ) => (evD f b Δ).bind (iixK2 d)
@[simp] theorem iixK_eq {f : IE → List Slot → Option (R × List Slot)} {b : IE} {d : D} {Δ : List Slot} : iixK f b ((d, Δ)) = (evD f b Δ).bind (iixK2 d) := (rfl)
@[simp] theorem evI_ix {a b : IE} : evI T np (n + 1) (.ix a b) Γ = (evD (evI T np n) a Γ).bind (iixK (evI T np n) b) := (rfl)
noncomputable def ibiK (g : Bi) : List D × List Slot → Option (R × List Slot)
  | (ds, Δ) => (biR g (ds.map R.im)).map (wS Δ)
@[simp] theorem ibiK_eq {g : Bi} {ds : List D} {Δ : List Slot} : ibiK g ((ds, Δ)) = (biR g (ds.map R.im)).map (wS Δ) := (rfl)
@[simp] theorem evI_bi {b : Bi} {es : List IE} : evI T np (n + 1) (.bi b es) Γ = (seqD (evI T np n) es Γ).bind (ibiK b) := (rfl)
/-- behind a call: what was lent comes back -/
def calO (as : List A) (Γ : List Slot) : Out → Option (R × List Slot)
  | .ret r fs => if once as [] = true then (wb Γ as fs).map (Prod.mk r) else none
  | _ => none
@[simp] theorem calO_ret {as : List A} {r : R} {fs : List Slot} : calO as Γ (.ret r fs) = if once as [] = true then (wb Γ as fs).map (Prod.mk r) else none := (rfl)
noncomputable def icalK2 (T : Tb) (j : Nat) (as : List A) (Γ : List Slot) (ss : List Slot) : Option (R × List Slot) := (T.call j ss).bind (calO as Γ)
@[simp] theorem icalK2_eq {j : Nat} {as : List A} {ss : List Slot} : icalK2 T j as Γ ss = (T.call j ss).bind (calO as Γ) := (rfl)
noncomputable def icalK (T : Tb) (j : Nat) : List A × List Slot → Option (R × List Slot)
  | (as, Δ) => (argz Δ as).bind (icalK2 T j as Δ)
@[simp] theorem icalK_eq {T : Tb} {j : Nat} {as : List A} {Δ : List Slot} : icalK T j ((as, Δ)) = (argz Δ as).bind (icalK2 T j as Δ) := (rfl)
@[simp] theorem evI_call {j : Nat} {es : List IE} : evI T np (n + 1) (.call j es) Γ = (seqA (evI T np n) es Γ).bind (icalK T j) := by
  show (seqA (evI T np n) es Γ).bind _ = _
  congr 1
  funext x
  obtain ⟨as, Δ⟩ := x
  show (argz Δ as).bind _ = (argz Δ as).bind _
  congr 1
  funext ss
  show _ = (T.call j ss).bind (calO as Δ)
  cases T.call j ss with
  | none => rfl
  | some o => cases o <;> rfl
/-! ### statements -/
section
variable {g : IS → List Slot → Option SR} {r : List IS}
@[simp] theorem execs_nil : execs g [] Γ = some (.nx Γ) := (rfl)
def frzO (i : Nat) (Γ : List Slot) : Slot → Option (List Slot)
  | .ow (.lst ds) => some (Γ.set i (.im (.lst ds)))
  | .ow (.dic ds) => some (Γ.set i (.im (.dic ds)))
  | _ => none
@[simp] theorem frzO_lst {i : Nat} {ds : List D} : frzO i Γ (.ow (.lst ds)) = some (Γ.set i (.im (.lst ds))) := (rfl)
def frzK (g : IS → List Slot → Option SR) (r : List IS) (i : Nat) (Γ : List Slot) (s : Slot) : Option SR := (frzO i Γ s).bind (execs g r)
@[simp] theorem frzK_eq {i : Nat} {s : Slot} : frzK g r i Γ s = (frzO i Γ s).bind (execs g r) := (rfl)
@[simp] theorem execs_frz {i : Nat} : execs g (.frz i :: r) Γ = (Γ[i]?).bind (frzK g r i Γ) := by
  show (match Γ[i]? with | some (.ow (.lst ds)) => execs g r (Γ.set i (.im (.lst ds))) | some (.ow (.dic ds)) => execs g r (Γ.set i (.im (.dic ds))) | _ => none) = _
  cases Γ[i]? with
  | none => rfl
  | some s =>
    cases s with
    | ow m => cases m <;> rfl
    | _ => rfl
@[simp] theorem execs_pass  : execs g (.pass :: r) Γ = SR.seq (g .pass Γ) (execs g r) := (rfl)
@[simp] theorem execs_brk  : execs g (.brk :: r) Γ = SR.seq (g .brk Γ) (execs g r) := (rfl)
@[simp] theorem execs_cnt  : execs g (.cnt :: r) Γ = SR.seq (g .cnt Γ) (execs g r) := (rfl)
@[simp] theorem execs_bad  : execs g (.bad :: r) Γ = SR.seq (g .bad Γ) (execs g r) := (rfl)
@[simp] theorem execs_fset {i c : Nat} {f : Str} {e : IE} : execs g ((.fset i c f e) :: r) Γ = SR.seq (g (.fset i c f e) Γ) (execs g r) := (rfl)
@[simp] theorem execs_set {i : Nat} {e : IE} : execs g ((.set i e) :: r) Γ = SR.seq (g (.set i e) Γ) (execs g r) := (rfl)
@[simp] theorem execs_setO {i : Nat} {e : IE} : execs g ((.setO i e) :: r) Γ = SR.seq (g (.setO i e) Γ) (execs g r) := (rfl)
@[simp] theorem execs_asg {t : Tg} {e : IE} : execs g ((.asg t e) :: r) Γ = SR.seq (g (.asg t e) Γ) (execs g r) := (rfl)
@[simp] theorem execs_par {i : List Nat} {e : List IE} : execs g ((.par i e) :: r) Γ = SR.seq (g (.par i e) Γ) (execs g r) := (rfl)
@[simp] theorem execs_aug {i : Nat} {op : Operator} {e : IE} : execs g ((.aug i op e) :: r) Γ = SR.seq (g (.aug i op e) Γ) (execs g r) := (rfl)
@[simp] theorem execs_ret {e : IE} : execs g ((.ret e) :: r) Γ = SR.seq (g (.ret e) Γ) (execs g r) := (rfl)
@[simp] theorem execs_retO {i : Nat} : execs g ((.retO i) :: r) Γ = SR.seq (g (.retO i) Γ) (execs g r) := (rfl)
@[simp] theorem execs_ret0  : execs g (.ret0 :: r) Γ = SR.seq (g .ret0 Γ) (execs g r) := (rfl)
@[simp] theorem execs_iff {c : IE} {a b : List IS} : execs g ((.iff c a b) :: r) Γ = SR.seq (g (.iff c a b) Γ) (execs g r) := (rfl)
@[simp] theorem execs_loop {t : Tg} {k : ItK} {it : List PE} {b : List IS} : execs g ((.loop t k it b) :: r) Γ = SR.seq (g (.loop t k it b) Γ) (execs g r) := (rfl)
@[simp] theorem execs_loopI {t : Tg} {k : ItK} {it : IE} {b : List IS} : execs g ((.loopI t k it b) :: r) Γ = SR.seq (g (.loopI t k it b) Γ) (execs g r) := (rfl)
@[simp] theorem execs_ex {e : IE} : execs g ((.ex e) :: r) Γ = SR.seq (g (.ex e) Γ) (execs g r) := (rfl)
@[simp] theorem execs_app {i : Nat} {e : IE} : execs g ((.app i e) :: r) Γ = SR.seq (g (.app i e) Γ) (execs g r) := (rfl)
@[simp] theorem execs_ext {i : Nat} {e : IE} : execs g ((.ext i e) :: r) Γ = SR.seq (g (.ext i e) Γ) (execs g r) := (rfl)
end
@[simp] theorem seq_bk {f : List Slot → Option SR} : SR.seq (some (.bk Γ)) f = some (.bk Γ) := (rfl)
@[simp] theorem seq_ct {f : List Slot → Option SR} : SR.seq (some (.ct Γ)) f = some (.ct Γ) := (rfl)
def thenK (f : List Slot → Option SR) (s : SR) : Option SR := s.then f
@[simp] theorem thenK_nx {f : List Slot → Option SR} : thenK f (.nx Γ) = f Γ := (rfl)
@[simp] theorem thenK_rt {f : List Slot → Option SR} {r : R} : thenK f (.rt r Γ) = some (.rt r Γ) := (rfl)
@[simp] theorem thenK_bk {f : List Slot → Option SR} : thenK f (.bk Γ) = some (.bk Γ) := (rfl)
@[simp] theorem thenK_ct {f : List Slot → Option SR} : thenK f (.ct Γ) = some (.ct Γ) := (rfl)
@[simp] theorem Wp_seq {o : Option SR} {f : List Slot → Option SR} {Q : SR → Prop} : Wp (SR.seq o f) Q ↔ Wp o (WpK (thenK f) Q) := by
  cases o with
  | none => simp [SR.seq]
  | some s => exact Iff.rfl.trans (by simp [SR.seq, thenK])
@[simp] theorem exS_pass : exS T np (n + 1) .pass Γ = some (.nx Γ) := (rfl)
@[simp] theorem exS_brk : exS T np (n + 1) .brk Γ = some (.bk Γ) := (rfl)
@[simp] theorem exS_cnt : exS T np (n + 1) .cnt Γ = some (.ct Γ) := (rfl)
@[simp] theorem exS_bad : exS T np (n + 1) .bad Γ = none := (rfl)
def fsetO (T : Tb) (i c : Nat) (f : Str) (d : D) (Δ : List Slot) : Slot → Option SR
  | .mu (.ins C fl) => if C = T.cls c ∧ fl.length ≠ T.full c ∧ fl.length < 1000 ∧ fl.lookup f = none then some (.nx (Δ.set i (.mu (.ins C (fl ++ [(f, d)]))))) else none
  | _ => none
@[simp] theorem fsetO_mu {i c : Nat} {f : Str} {d : D} {Δ : List Slot} {C : Addr} {fl : List (Str × D)} : fsetO T i c f d Δ (.mu (.ins C fl)) = if C = T.cls c ∧ fl.length ≠ T.full c ∧ fl.length < 1000 ∧ fl.lookup f = none then some (.nx (Δ.set i (.mu (.ins C (fl ++ [(f, d)]))))) else none := (rfl)
noncomputable def fsetK (T : Tb) (i : Nat) (c : Nat) (f : Str) : D × List Slot → Option SR
  | (d, Δ) => (Δ[i]?).bind (fsetO T i c f d Δ)
@[simp] theorem fsetK_eq {T : Tb} {i : Nat} {c : Nat} {f : Str} {d : D} {Δ : List Slot} : fsetK T i c f ((d, Δ)) = (Δ[i]?).bind (fsetO T i c f d Δ) := (rfl)
@[simp] theorem exS_fset {i c : Nat} {f : Str} {e : IE} : exS T np (n + 1) (.fset i c f e) Γ = (evD (evI T np np) e Γ).bind (fsetK T i c f) := by
  show (evD (evI T np np) e Γ).bind _ = _
  congr 1
  funext x
  obtain ⟨d, Δ⟩ := x
  show _ = (Δ[i]?).bind (fsetO T i c f d Δ)
  show (match Δ[i]? with | some (.mu (.ins C fl)) => _ | _ => none) = _
  cases Δ[i]? with
  | none => rfl
  | some s =>
    cases s with
    | mu m => cases m <;> rfl
    | _ => rfl
noncomputable def setK (i : Nat) : D × List Slot → Option SR
  | (d, Δ) => (setS Δ i (.im d)).map SR.nx
@[simp] theorem setK_eq {i : Nat} {d : D} {Δ : List Slot} : setK i ((d, Δ)) = (setS Δ i (.im d)).map SR.nx := (rfl)
@[simp] theorem exS_set {i : Nat} {e : IE} : exS T np (n + 1) (.set i e) Γ = (evD (evI T np np) e Γ).bind (setK i) := (rfl)
def setOO (i : Nat) : R × List Slot → Option SR
  | (.ow m, Γ) => (setS Γ i (.ow m)).map .nx
  | _ => none
@[simp] theorem setOO_ow {i : Nat} {m : M} : setOO i (.ow m, Γ) = (setS Γ i (.ow m)).map .nx := (rfl)
@[simp] theorem exS_setO {i : Nat} {e : IE} : exS T np (n + 1) (.setO i e) Γ = (evI T np np e Γ).bind (setOO i) := by
  show (evI T np np e Γ).bind _ = _
  congr 1
  funext x
  obtain ⟨r, Γ'⟩ := x
  cases r <;> rfl
noncomputable def asgK (T : Tb) (np : Nat) (t : Tg) : D × List Slot → Option SR
  | (d, Δ) => (stg T np np t d Δ).map SR.nx
@[simp] theorem asgK_eq {T : Tb} {np : Nat} {t : Tg} {d : D} {Δ : List Slot} : asgK T np t ((d, Δ)) = (stg T np np t d Δ).map SR.nx := (rfl)
@[simp] theorem exS_asg {t : Tg} {e : IE} : exS T np (n + 1) (.asg t e) Γ = (evD (evI T np np) e Γ).bind (asgK T np t) := (rfl)
noncomputable def parK (xs : List Nat) : List D × List Slot → Option SR
  | (ds, Δ) => (setL Δ xs ds).map SR.nx
@[simp] theorem parK_eq {xs : List Nat} {ds : List D} {Δ : List Slot} : parK xs ((ds, Δ)) = (setL Δ xs ds).map SR.nx := (rfl)
@[simp] theorem exS_par {xs : List Nat} {es : List IE} : exS T np (n + 1) (.par xs es) Γ = (seqD (evI T np np) es Γ).bind (parK xs) := (rfl)
def augK2 (i : Nat) (f : Int → Int → Int) (k : Int) (Δ : List Slot) (l : Int) : Option SR := (setS Δ i (.im (.int (f k l)))).map .nx
@[simp] theorem augK2_eq {i : Nat} {f : Int → Int → Int} {k : Int} {Δ : List Slot} {l : Int} : augK2 i f k Δ l = (setS Δ i (.im (.int (f k l)))).map .nx := (rfl)
noncomputable def augK (i : Nat) (f : Int → Int → Int) (k : Int) : R × List Slot → Option SR
  | (r, Δ) => r.int?.bind (augK2 i f k Δ)
@[simp] theorem augK_eq {i : Nat} {f : Int → Int → Int} {k : Int} {r : R} {Δ : List Slot} : augK i f k ((r, Δ)) = r.int?.bind (augK2 i f k Δ) := (rfl)
noncomputable def augO (T : Tb) (np i : Nat) (e : IE) (Γ : List Slot) (f : Int → Int → Int) : Slot → Option SR
  | .im (.int k) => (evI T np np e Γ).bind (augK i f k)
  | _ => none
@[simp] theorem augO_int {i : Nat} {f : Int → Int → Int} {e : IE} {k : Int} : augO T np i e Γ f (.im (.int k)) = (evI T np np e Γ).bind (augK i f k) := (rfl)
noncomputable def augP (T : Tb) (np i : Nat) (e : IE) (Γ : List Slot) (f : Int → Int → Int) : Option SR := (Γ[i]?).bind (augO T np i e Γ f)
@[simp] theorem augP_eq {i : Nat} {f : Int → Int → Int} {e : IE} : augP T np i e Γ f = (Γ[i]?).bind (augO T np i e Γ f) := (rfl)
@[simp] theorem exS_aug {i : Nat} {op : Operator} {e : IE} : exS T np (n + 1) (.aug i op e) Γ = (opI op).bind (augP T np i e Γ) := by
  show (opI op).bind _ = _
  congr 1
  funext f
  show _ = (Γ[i]?).bind (augO T np i e Γ f)
  show (match Γ[i]? with | some (.im (.int k)) => _ | _ => none) = _
  cases Γ[i]? with
  | none => rfl
  | some s =>
    cases s with
    | im d => cases d <;> rfl
    | _ => rfl
@[simp] theorem opI_add : opI .Add = some (· + ·) := (rfl)
def rtS : R × List Slot → SR
  | (r, Δ) => .rt r Δ
@[simp] theorem rtS_eq {r : R} {Δ : List Slot} : rtS (r, Δ) = .rt r Δ := (rfl)
@[simp] theorem exS_ret {e : IE} : exS T np (n + 1) (.ret e) Γ = (evI T np np e Γ).map rtS := (rfl)
def rowO (Γ : List Slot) : Slot → Option SR
  | .ow m => some (.rt (.ow m) Γ)
  | _ => none
@[simp] theorem rowO_ow {m : M} : rowO Γ (.ow m) = some (.rt (.ow m) Γ) := (rfl)
@[simp] theorem exS_retO {i : Nat} : exS T np (n + 1) (.retO i) Γ = (Γ[i]?).bind (rowO Γ) := by
  show (match Γ[i]? with | some (.ow m) => some (SR.rt (.ow m) Γ) | _ => none) = _
  cases Γ[i]? with
  | none => rfl
  | some s => cases s <;> rfl
@[simp] theorem exS_ret0 : exS T np (n + 1) .ret0 Γ = some (.rt (.im .non) Γ) := (rfl)
noncomputable def iffK2 (g : IS → List Slot → Option SR) (a b : List IS) (Δ : List Slot) (q : Bool) : Option SR := if q = true then execs g a Δ else execs g b Δ
@[simp] theorem iffK2_eq {g : IS → List Slot → Option SR} {a b : List IS} {Δ : List Slot} {q : Bool} : iffK2 g a b Δ q = if q = true then execs g a Δ else execs g b Δ := (rfl)
noncomputable def iffK (g : IS → List Slot → Option SR) (a : List IS) (b : List IS) : R × List Slot → Option SR
  | (r, Δ) => r.bl?.bind (iffK2 g a b Δ)
@[simp] theorem iffK_eq {g : IS → List Slot → Option SR} {a : List IS} {b : List IS} {r : R} {Δ : List Slot} : iffK g a b ((r, Δ)) = r.bl?.bind (iffK2 g a b Δ) := (rfl)
@[simp] theorem exS_iff {c : IE} {a b : List IS} : exS T np (n + 1) (.iff c a b) Γ = (evI T np np c Γ).bind (iffK (exS T np n) a b) := (rfl)
/-- the turns of a loop, a name for them -/
noncomputable def turnS (T : Tb) (np n : Nat) (t : Tg) (body : List IS) (d : D) (Γ : List Slot) : Option SR := (stg T np np t d Γ).bind (execs (exS T np n) body)
theorem turnS_eq {t : Tg} {body : List IS} {d : D} : turnS T np n t body d Γ = (stg T np np t d Γ).bind (execs (exS T np n) body) := (rfl)
noncomputable def lopK2 (T : Tb) (np n : Nat) (t : Tg) (body : List IS) (Γ : List Slot) (ds : List D) : Option SR := loopR (turnS T np n t body) ds Γ
@[simp] theorem lopK2_eq {t : Tg} {body : List IS} {ds : List D} : lopK2 T np n t body Γ ds = loopR (turnS T np n t body) ds Γ := (rfl)
noncomputable def lopK (T : Tb) (np n : Nat) (t : Tg) (k : ItK) (it : List PE) (body : List IS) (Γ : List Slot) (rs : List R) : Option SR := (itK T k it rs).bind (lopK2 T np n t body Γ)
@[simp] theorem lopK_eq {t : Tg} {k : ItK} {it : List PE} {body : List IS} {rs : List R} : lopK T np n t k it body Γ rs = (itK T k it rs).bind (lopK2 T np n t body Γ) := (rfl)
@[simp] theorem exS_loop {t : Tg} {k : ItK} {it : List PE} {body : List IS} : exS T np (n + 1) (.loop t k it body) Γ = (evs T np Γ it).bind (lopK T np n t k it body Γ) := (rfl)
noncomputable def lopI (T : Tb) (np : Nat) (n : Nat) (t : Tg) (k : ItK) (body : List IS) : D × List Slot → Option SR
  | (d, Δ) => (itR k [.im d]).bind (lopK2 T np n t body Δ)
@[simp] theorem lopI_eq {T : Tb} {np : Nat} {n : Nat} {t : Tg} {k : ItK} {body : List IS} {d : D} {Δ : List Slot} : lopI T np n t k body ((d, Δ)) = (itR k [.im d]).bind (lopK2 T np n t body Δ) := (rfl)
@[simp] theorem exS_loopI {t : Tg} {k : ItK} {it : IE} {body : List IS} : exS T np (n + 1) (.loopI t k it body) Γ = (evD (evI T np np) it Γ).bind (lopI T np n t k body) := (rfl)
def nxS : R × List Slot → SR
  | (_, Δ) => .nx Δ
@[simp] theorem nxS_eq {r : R} {Δ : List Slot} : nxS (r, Δ) = .nx Δ := (rfl)
@[simp] theorem exS_ex {e : IE} : exS T np (n + 1) (.ex e) Γ = (evI T np np e Γ).map nxS := (rfl)
noncomputable def appK3 (d : D) : List D × (List D → List Slot) → Option SR
  | (l, f) => gd (l.length < sizeLine) (.nx (f (l ++ [d])))
@[simp] theorem appK3_eq {d : D} {l : List D} {f : List D → List Slot} : appK3 d (l, f) = gd (l.length < sizeLine) (.nx (f (l ++ [d]))) := (rfl)
noncomputable def appK2 (i : Nat) (d : D) (Δ : List Slot) (_ : List D × (List D → List Slot)) : Option SR := (ownL Δ i).bind (appK3 d)
@[simp] theorem appK2_eq {i : Nat} {d : D} {Δ : List Slot} {x : List D × (List D → List Slot)} : appK2 i d Δ x = (ownL Δ i).bind (appK3 d) := (rfl)
noncomputable def appK (i : Nat) (Γ : List Slot) : D × List Slot → Option SR
  | (d, Δ) => (ownL Γ i).bind (appK2 i d Δ)
@[simp] theorem appK_eq {i : Nat} {Γ : List Slot} {d : D} {Δ : List Slot} : appK i Γ ((d, Δ)) = (ownL Γ i).bind (appK2 i d Δ) := (rfl)
@[simp] theorem exS_app {i : Nat} {e : IE} : exS T np (n + 1) (.app i e) Γ = (evD (evI T np np) e Γ).bind (appK i Γ) := (rfl)
def lstO : D → Option (List D)
  | .lst es => some es
  | _ => none
@[simp] theorem lstO_lst {es : List D} : lstO (.lst es) = some es := (rfl)
noncomputable def extK3 (es : List D) : List D × (List D → List Slot) → Option SR
  | (l, f) => gd (l.length + es.length ≤ sizeLine) (.nx (f (l ++ es)))
@[simp] theorem extK3_eq {es l : List D} {f : List D → List Slot} : extK3 es (l, f) = gd (l.length + es.length ≤ sizeLine) (.nx (f (l ++ es))) := (rfl)
noncomputable def extK2 (i : Nat) (es : List D) (Δ : List Slot) (_ : List D × (List D → List Slot)) : Option SR := (ownL Δ i).bind (extK3 es)
@[simp] theorem extK2_eq {i : Nat} {es : List D} {Δ : List Slot} {x : List D × (List D → List Slot)} : extK2 i es Δ x = (ownL Δ i).bind (extK3 es) := (rfl)
noncomputable def extK1 (i : Nat) (Γ Δ : List Slot) (es : List D) : Option SR := (ownL Γ i).bind (extK2 i es Δ)
@[simp] theorem extK1_eq {i : Nat} {Δ : List Slot} {es : List D} : extK1 i Γ Δ es = (ownL Γ i).bind (extK2 i es Δ) := (rfl)
noncomputable def extK (i : Nat) (Γ : List Slot) : D × List Slot → Option SR
  | (d, Δ) => (lstO d).bind (extK1 i Γ Δ)
@[simp] theorem extK_eq {i : Nat} {Γ : List Slot} {d : D} {Δ : List Slot} : extK i Γ ((d, Δ)) = (lstO d).bind (extK1 i Γ Δ) := (rfl)
@[simp] theorem exS_ext {i : Nat} {e : IE} : exS T np (n + 1) (.ext i e) Γ = (evD (evI T np np) e Γ).bind (extK i Γ) := by
  show (evD (evI T np np) e Γ).bind _ = _
  congr 1
  funext x
  obtain ⟨d, Γ'⟩ := x
  cases d <;> rfl
@[simp] theorem stg_name {i : Nat} {d : D} : stg T np (n + 1) (.name i) d Γ = setS Γ i (.im d) := (rfl)
@[simp] theorem stg_tup {ts : List Tg} {ds : List D} : stg T np (n + 1) (.tup ts) (.tup ds) Γ = stgs (stg T np n) ts ds Γ := (rfl)
def itmK4 (l : List D) (f : List D → List Slot) (d : D) (j : Nat) : List Slot := f (l.set j d)
@[simp] theorem itmK4_eq {l : List D} {f : List D → List Slot} {d : D} {j : Nat} : itmK4 l f d j = f (l.set j d) := (rfl)
def itmK3 (d : D) (z : Int) : List D × (List D → List Slot) → Option (List Slot)
  | (l, f) => (ixN l.length z).map (itmK4 l f d)
@[simp] theorem itmK3_eq {d : D} {z : Int} {l : List D} {f : List D → List Slot} : itmK3 d z (l, f) = (ixN l.length z).map (itmK4 l f d) := (rfl)
def itmK2 (i : Nat) (d : D) (Γ : List Slot) (z : Int) : Option (List Slot) := (ownL Γ i).bind (itmK3 d z)
@[simp] theorem itmK2_eq {i : Nat} {d : D} {z : Int} : itmK2 i d Γ z = (ownL Γ i).bind (itmK3 d z) := (rfl)
def itmK (i : Nat) (d : D) (Γ : List Slot) (r : R) : Option (List Slot) := r.int?.bind (itmK2 i d Γ)
@[simp] theorem itmK_eq {i : Nat} {d : D} {r : R} : itmK i d Γ r = r.int?.bind (itmK2 i d Γ) := (rfl)
@[simp] theorem stg_item {i : Nat} {k : PE} {d : D} : stg T np (n + 1) (.item i k) d Γ = (evP T np k Γ).bind (itmK i d Γ) := by
  show ((evP T np k Γ).bind R.int?).bind _ = _
  cases evP T np k Γ <;> rfl
@[simp] theorem stgs_nil {f : Tg → D → List Slot → Option (List Slot)} : stgs f [] [] Γ = some Γ := (rfl)
@[simp] theorem stgs_cons {f : Tg → D → List Slot → Option (List Slot)} {t : Tg} {ts : List Tg} {d : D} {ds : List D} : stgs f (t :: ts) (d :: ds) Γ = (f t d Γ).bind (stgs f ts ds) := (rfl)
@[simp] theorem setL_nil : setL Γ [] [] = some Γ := (rfl)
def setLK (is : List Nat) (ds : List D) (Δ : List Slot) : Option (List Slot) := setL Δ is ds
@[simp] theorem setLK_eq {is : List Nat} {ds : List D} {Δ : List Slot} : setLK is ds Δ = setL Δ is ds := (rfl)
@[simp] theorem setL_cons {i : Nat} {is : List Nat} {d : D} {ds : List D} : setL Γ (i :: is) (d :: ds) = (setS Γ i (.im d)).bind (setLK is ds) := (rfl)
/-- may be stored into -/
def stoS : Slot → Bool
  | .mu _ => false
  | _ => true
def stoK (Γ : List Slot) (i : Nat) (s : Slot) : Slot → Option (List Slot)
  | .mu _ => none
  | _ => some (Γ.set i s)
@[simp] theorem stoK_un {i : Nat} {s : Slot} : stoK Γ i s .un = some (Γ.set i s) := (rfl)
@[simp] theorem stoK_im {i : Nat} {s : Slot} {d : D} : stoK Γ i s (.im d) = some (Γ.set i s) := (rfl)
@[simp] theorem stoK_ow {i : Nat} {s : Slot} {m : M} : stoK Γ i s (.ow m) = some (Γ.set i s) := (rfl)
@[simp] theorem setS_eq {i : Nat} {s : Slot} : setS Γ i s = (Γ[i]?).bind (stoK Γ i s) := by
  unfold setS stoB
  cases Γ[i]? with
  | none => rfl
  | some z => cases z <;> rfl
def ownO (i : Nat) (Γ : List Slot) : Slot → Option (List D × (List D → List Slot))
  | .ow (.lst ds) => some (ds, fun ds' => Γ.set i (.ow (.lst ds')))
  | .mu (.lst ds) => some (ds, fun ds' => Γ.set i (.mu (.lst ds')))
  | _ => none
@[simp] theorem ownO_ow {i : Nat} {ds : List D} : ownO i Γ (.ow (.lst ds)) = some (ds, fun ds' => Γ.set i (.ow (.lst ds'))) := (rfl)
@[simp] theorem ownO_mu {i : Nat} {ds : List D} : ownO i Γ (.mu (.lst ds)) = some (ds, fun ds' => Γ.set i (.mu (.lst ds'))) := (rfl)
@[simp] theorem ownL_eq {i : Nat} : ownL Γ i = (Γ[i]?).bind (ownO i Γ) := by
  unfold ownL
  cases Γ[i]? with
  | none => rfl
  | some z =>
    cases z with
    | ow m => cases m <;> rfl
    | mu m => cases m <;> rfl
    | _ => rfl
/-! ### loops -/
/-- what a turn has to come to -/
def TurnQ (I : List Slot → Prop) (Q : SR → Prop) : SR → Prop
  | .nx Γ => I Γ
  | .ct Γ => I Γ
  | .bk Γ => Q (.nx Γ)
  | .rt r Γ => Q (.rt r Γ)
@[simp] theorem TurnQ_nx {I : List Slot → Prop} {Q : SR → Prop} : TurnQ I Q (.nx Γ) ↔ I Γ := Iff.rfl
@[simp] theorem TurnQ_ct {I : List Slot → Prop} {Q : SR → Prop} : TurnQ I Q (.ct Γ) ↔ I Γ := Iff.rfl
@[simp] theorem TurnQ_bk {I : List Slot → Prop} {Q : SR → Prop} : TurnQ I Q (.bk Γ) ↔ Q (.nx Γ) := Iff.rfl
@[simp] theorem TurnQ_rt {r : R} {I : List Slot → Prop} {Q : SR → Prop} : TurnQ I Q (.rt r Γ) ↔ Q (.rt r Γ) := Iff.rfl
theorem loopR_wp {f : D → List Slot → Option SR} {Q : SR → Prop} : ∀ {ds : List D} {I : Nat → List Slot → Prop} {Γ : List Slot}, I 0 Γ → (∀ k d Γ, ds[k]? = some d → I k Γ → Wp (f d Γ) (TurnQ (I (k + 1)) Q)) → (∀ Γ, I ds.length Γ → Q (.nx Γ)) → Wp (loopR f ds Γ) Q
  | [], I, Γ, h0, _, he => ⟨_, rfl, he _ h0⟩
  | d :: ds, I, Γ, h0, hs, he => by
    obtain ⟨s, e, h⟩ := hs 0 d Γ rfl h0
    have step : ∀ Γ', I 1 Γ' → Wp (loopR f ds Γ') Q := fun Γ' h1 => loopR_wp (I := fun k => I (k + 1)) h1 (fun k d' Γ2 e' h' => hs (k + 1) d' Γ2 (by simpa using e') h') he
    show Wp ((f d Γ).bind _) Q
    rw [e]
    cases s with
    | nx Γ' => exact step Γ' h
    | ct Γ' => exact step Γ' h
    | bk Γ' => exact ⟨_, rfl, h⟩
    | rt r Γ' => exact ⟨_, rfl, h⟩
end
/-! ### calls -/
def finO (ar : Nat) : SR → Option Out
  | .nx Γ => some (.ret (.im .non) (Γ.take ar))
  | .rt r Γ => some (.ret r (Γ.take ar))
  | _ => none
@[simp] theorem finO_nx {ar : Nat} {Γ : List Slot} : finO ar (.nx Γ) = some (.ret (.im .non) (Γ.take ar)) := (rfl)
@[simp] theorem finO_rt {ar : Nat} {Γ : List Slot} {r : R} : finO ar (.rt r Γ) = some (.ret r (Γ.take ar)) := (rfl)
theorem callN_def {np : Nat} {fds : Nat → Option FD} {T0 : Tb} {j : Nat} {F : FD} (h : fds j = some F) (d : Nat) (ss : List Slot) (hl : ss.length = F.ar) :
    callN np fds T0 (d + 1) j ss = (execs (exS (tbN np fds T0 d) np np) F.body (ss ++ List.replicate (F.N.length - ss.length) .un)).bind (finO F.ar) := by
  rw [callN_succ h]
  unfold runD
  rw [if_pos hl]
  show (execs _ _ _).bind _ = (execs _ _ _).bind _
  refine congrArg _ (funext fun s => ?_)
  cases s <;> rfl
section
variable {np : Nat} {fds : Nat → Option FD} {T0 : Tb} {d : Nat}
@[simp] theorem tbN_call : (tbN np fds T0 d).call = callN np fds T0 d := (rfl)
@[simp] theorem tbN_con : (tbN np fds T0 d).con = T0.con := (rfl)
@[simp] theorem tbN_cls : (tbN np fds T0 d).cls = T0.cls := (rfl)
@[simp] theorem tbN_full : (tbN np fds T0 d).full = T0.full := (rfl)
@[simp] theorem tbN_meth : (tbN np fds T0 d).meth = T0.meth := (rfl)
@[simp] theorem tbN_mnm : (tbN np fds T0 d).mnm = T0.mnm := (rfl)
@[simp] theorem tbN_init : (tbN np fds T0 d).init = T0.init := (rfl)
@[simp] theorem tbN_kd : (tbN np fds T0 d).kd = T0.kd := (rfl)
@[simp] theorem tbN_fns : (tbN np fds T0 d).fns = T0.fns := (rfl)
@[simp] theorem tbN_adr : (tbN np fds T0 d).adr = T0.adr := (rfl)
@[simp] theorem tbN_kw : (tbN np fds T0 d).kw = T0.kw := (rfl)
end
/-! ### values -/
@[simp] theorem slotR_im {d : D} : slotR (.im d) = some (.im d) := (rfl)
@[simp] theorem slotR_ow {m : M} : slotR (.ow m) = some (.vo m) := (rfl)
@[simp] theorem slotR_mu {m : M} : slotR (.mu m) = some (.vo m) := (rfl)
@[simp] theorem toD_im {d : D} : R.toD (.im d) = some d := (rfl)
@[simp] theorem toD_ow {d : List D} : R.toD (.ow (.lst d)) = some (.lst d) := (rfl)
@[simp] theorem int?_int {d : Int} : R.int? (.im (.int d)) = some d := (rfl)
@[simp] theorem bl?_bl {d : Bool} : R.bl? (.im (.bl d)) = some d := (rfl)
@[simp] theorem lookD_im {d : D} : R.lookD (.im d) = some d := (rfl)
@[simp] theorem argS_eq {ds : List D} : argS ds = ds.map Slot.im := (rfl)
@[simp] theorem binR_add {i j : Int} : binR .Add (.im (.int i)) (.im (.int j)) = some (.im (.int (i + j))) := (rfl)
@[simp] theorem binR_sub {i j : Int} : binR .Sub (.im (.int i)) (.im (.int j)) = some (.im (.int (i - j))) := (rfl)
theorem binR_mul {i j : Int} : binR .Mult (.im (.int i)) (.im (.int j)) = gd (CMul i j ∨ CMulW i j) (.im (.int (i * j))) := (rfl)
theorem binR_mod {i j : Int} : binR .Mod (.im (.int i)) (.im (.int j)) = gd (0 < j) (.im (.int (i % j))) := (rfl)
theorem binR_div {i j : Int} : binR .FloorDiv (.im (.int i)) (.im (.int j)) = gd (CDivW i j) (.im (.int (i / j))) := (rfl)
theorem binR_pow {i j : Int} : binR .Pow (.im (.int i)) (.im (.int j)) = gd (CPow i j) (.im (.int (i ^ j.toNat))) := (rfl)
theorem binR_tup {ds es : List D} : binR .Add (.im (.tup ds)) (.im (.tup es)) = gd (ds.length + es.length ≤ sizeLine) (.im (.tup (ds ++ es))) := (rfl)
theorem binR_str {x y : Str} : binR .Add (.im (.str x)) (.im (.str y)) = gd (x.length + y.length ≤ sizeLine) (.im (.str (x ++ y))) := (rfl)
@[simp] theorem cmpR_lt {i j : Int} : cmpR .Lt (.im (.int i)) (.im (.int j)) = some (decide (i < j)) := (rfl)
@[simp] theorem cmpR_le {i j : Int} : cmpR .LtE (.im (.int i)) (.im (.int j)) = some (decide (i ≤ j)) := (rfl)
@[simp] theorem cmpR_gt {i j : Int} : cmpR .Gt (.im (.int i)) (.im (.int j)) = some (decide (j < i)) := (rfl)
@[simp] theorem cmpR_ge {i j : Int} : cmpR .GtE (.im (.int i)) (.im (.int j)) = some (decide (j ≤ i)) := (rfl)
@[simp] theorem cmpR_eq {ra rb : R} : cmpR .Eq ra rb = eqR ra rb := by cases ra <;> cases rb <;> first | rfl | (rename_i a b; cases a <;> cases b <;> rfl) | (rename_i a b; cases a <;> rfl) | (rename_i a b; cases b <;> rfl)
@[simp] theorem cmpR_ne {ra rb : R} : cmpR .NotEq ra rb = (eqR ra rb).map (!·) := by cases ra <;> cases rb <;> first | rfl | (rename_i a b; cases a <;> cases b <;> rfl) | (rename_i a b; cases a <;> rfl) | (rename_i a b; cases b <;> rfl)
end DL
/-! printed by gen2.py: the terms of the defs -/
namespace LW
open PySem PySem.Spec L2 DL
/-- check_way: number 0 -/
def P_check_way : FD := ⟨["thing"], 1,
  [.iff (.p (.or (.not (.isi (.var 0) .str)) (.kin true (.var 0) 0))) [.bad] []]⟩
/-- behind: number 1 -/
def P_behind : FD := ⟨["way", "other", "due", "swap", "warp", "weft", "more", "turn_warp", "turn_weft", "word"], 2,
  [.ex (.p (.call 0 [(.var 0)])), .ex (.p (.call 0 [(.var 1)])), .asg (.tup [(.name 3), (.name 4), (.name 5)]) (.p (.kget 0 (.var 0))), .asg (.tup [(.name 6), (.name 7), (.name 8)]) (.p (.kget 0 (.var 1))), .iff (.p (.var 6)) [.par [4, 5] [(.p (.var 5)), (.p (.var 4))]] [], .set 2 (.p (.tup [(.cmp .NotEq (.var 3) (.var 6)), (.cmp .NotEq (.var 4) (.var 7)), (.cmp .NotEq (.var 5) (.var 8))])), .ret (.p (.ix (.lc [9] .keys [(.kd 0)] (some (.cmp .Eq (.kget 0 (.var 9)) (.var 2))) (.var 9)) (.int 0)))]⟩
/-- ways_between: number 2 -/
def P_ways_between : FD := ⟨["cloth", "other", "word"], 2,
  [.ret (.p (.bi .tuple [(.lc [2] .keys [(.kd 0)] (some (.oeq 0 (.meth 1 (.var 0) [(.var 2)]) (.var 1))) (.var 2))]))]⟩
/-- is_whole: number 3 -/
def P_is_whole : FD := ⟨["x"], 1,
  [.ret (.p (.and (.isi (.var 0) .int) (.not (.isi (.var 0) .bool))))]⟩
/-- is_between: number 4 -/
def P_is_between : FD := ⟨["x", "low", "high"], 3,
  [.ret (.p (.and (.call 3 [(.var 0)]) (.chain .LtE .LtE (.var 1) (.var 0) (.var 2))))]⟩
/-- is_word: number 5 -/
def P_is_word : FD := ⟨["thing", "most", "sign"], 2,
  [.ret (.p (.and (.isi (.var 0) .str) (.and (.chain .LtE .LtE (.int 1) (.bi .len [(.var 0)]) (.var 1)) (.bi .all [(.lc [2] .seq [(.var 0)] none (.cmp .In (.var 2) (.con 0)))]))))]⟩
/-- is_shade: number 6 -/
def P_is_shade : FD := ⟨["thing"], 1,
  [.ret (.p (.call 5 [(.var 0), (.int 3)]))]⟩
/-- is_stripe: number 7 -/
def P_is_stripe : FD := ⟨["thing"], 1,
  [.iff (.p (.or (.not (.isi (.var 0) .tuple)) (.cmp .NotEq (.bi .len [(.var 0)]) (.int 2)))) [.ret (.p (.bl false))] [], .ret (.p (.and (.call 6 [(.ix (.var 0) (.int 0))]) (.and (.call 3 [(.ix (.var 0) (.int 1))]) (.cmp .Gt (.ix (.var 0) (.int 1)) (.int 0)))))]⟩
/-- check_stripes: number 8 -/
def P_check_stripes : FD := ⟨["thing", "many", "number", "stripe"], 1,
  [.iff (.p (.or (.not (.isi (.var 0) .tuple)) (.cmp .Eq (.var 0) (.tup [])))) [.bad] [], .set 1 (.p (.int 0)), .loop (.tup [(.name 2), (.name 3)]) .enum [(.var 0)] [.iff (.p (.not (.call 7 [(.var 3)]))) [.bad] [], .aug 1 .Add (.p (.ix (.var 3) (.int 1))), .iff (.p (.cmp .Gt (.var 1) (.con 1))) [.bad] []]]⟩
/-- threads_of: number 9 -/
def P_threads_of : FD := ⟨["stripes", "found", "shade", "count"], 1,
  [.ex (.p (.call 8 [(.var 0)])), .setO 1 (.p (.lst [])), .loop (.tup [(.name 2), (.name 3)]) .seq [(.var 0)] [.ext 1 (.p (.bin .Mult (.lst [(.var 2)]) (.var 3)))], .ret (.p (.bi .tuple [(.var 1)]))]⟩
/-- merged: number 10 -/
def P_merged : FD := ⟨["threads", "found", "shade"], 1,
  [.setO 1 (.p (.lst [])), .loop (.name 2) .seq [(.var 0)] [.iff (.p (.and (.cmp .NotEq (.var 1) (.lst [])) (.cmp .Eq (.ix (.ix (.var 1) (.neg (.int 1))) (.int 0)) (.var 2)))) [.asg (.item 1 (.neg (.int 1))) (.p (.tup [(.var 2), (.bin .Add (.ix (.ix (.var 1) (.neg (.int 1))) (.int 1)) (.int 1))]))] [.app 1 (.p (.tup [(.var 2), (.int 1)]))]], .ret (.p (.bi .tuple [(.var 1)]))]⟩
/-- run_word: number 11 -/
def P_run_word : FD := ⟨["threads"], 1,
  [.ret (.p (.var 0))]⟩
/-- pivot_word: number 12 -/
def P_pivot_word : FD := ⟨["threads"], 1,
  [.ret (.p (.bin .Add (.var 0) (.rev (.sl (.var 0) (some (.int 1)) (some (.neg (.int 1)))))))]⟩
/-- fold_word: number 13 -/
def P_fold_word : FD := ⟨["threads"], 1,
  [.ret (.p (.bin .Add (.var 0) (.rev (.var 0))))]⟩
/-- left_word: number 14 -/
def P_left_word : FD := ⟨["threads"], 1,
  [.ret (.p (.bin .Add (.var 0) (.rev (.sl (.var 0) (some (.int 1)) none))))]⟩
/-- right_word: number 15 -/
def P_right_word : FD := ⟨["threads"], 1,
  [.ret (.p (.bin .Add (.var 0) (.rev (.sl (.var 0) none (some (.neg (.int 1)))))))]⟩
/-- is_manner: number 16 -/
def P_is_manner : FD := ⟨["thing"], 1,
  [.ret (.p (.and (.isi (.var 0) .str) (.kin false (.var 0) 1)))]⟩
/-- check_spot: number 17 -/
def P_check_spot : FD := ⟨["thing"], 1,
  [.iff (.p (.not (.call 4 [(.var 0), (.bin .Sub (.int 0) (.con 2)), (.con 2)]))) [.bad] []]⟩
/-- least_round: number 18 -/
def P_least_round : FD := ⟨["threads", "many", "size"], 1,
  [.set 1 (.p (.bi .len [(.var 0)])), .loop (.name 2) .range2 [(.int 1), (.var 1)] [.iff (.p (.and (.cmp .Eq (.bin .Mod (.var 1) (.var 2)) (.int 0)) (.cmp .Eq (.sl (.var 0) (some (.var 2)) none) (.sl (.var 0) none (some (.bin .Sub (.var 1) (.var 2))))))) [.ret (.p (.var 2))] []], .ret (.p (.var 1))]⟩
/-- least_begun: number 19 -/
def P_least_begun : FD := ⟨["threads", "at"], 1,
  [.ret (.p (.bi .min [(.lc [1] .range1 [(.bi .len [(.var 0)])] none (.bin .Add (.sl (.var 0) (some (.var 1)) none) (.sl (.var 0) none (some (.var 1)))))]))]⟩
/-- row_of_threads: number 20 -/
def P_row_of_threads : FD := ⟨["threads", "size"], 1,
  [.set 1 (.p (.call 18 [(.var 0)])), .iff (.p (.cmp .Gt (.var 1) (.con 1))) [.bad] [], .ret (.p (.make 2 [(.call 10 [(.sl (.var 0) none (some (.var 1)))])]))]⟩
/-- _law_pool: number 21 -/
def Q_pool : FD := ⟨["_law_script", "_law_k", "_law_cell", "_law_more", "_law_found", "_law_turn"], 2,
  [.set 2 (.p (.bi .sum [(.sl (.var 0) (some (.var 1)) (some (.bin .Add (.var 1) (.int 1))))])), .iff (.p (.or (.cmp .Lt (.var 2) (.int 0)) (.cmp .GtE (.var 2) (.bin .Pow (.int 10) (.int 18))))) [.ret (.p (.lst [(.bin .Mod (.bi .abs [(.var 2)]) (.bin .Mult (.bin .Mult (.bin .Mult (.bin .Mult (.bin .Mult (.bin .Pow (.int 10) (.int 64)) (.bin .Pow (.int 10) (.int 64))) (.bin .Pow (.int 10) (.int 64))) (.bin .Pow (.int 10) (.int 64))) (.bin .Pow (.int 10) (.int 64))) (.bin .Pow (.int 10) (.int 64))))]))] [], .set 3 (.p (.bin .Add (.bin .Add (.bin .Mult (.var 2) (.int 48271)) (.bin .Mult (.bin .Mult (.int 977) (.var 1)) (.var 1))) (.int 13))), .set 4 (.p (.int 0)), .loop (.name 5) .range1 [(.int 27)] [.set 3 (.p (.bin .Mod (.bin .Add (.bin .Add (.bin .Mult (.bin .Mod (.var 3) (.int 999999999989)) (.int 69621)) (.bin .Mult (.int 40503) (.var 5))) (.int 271)) (.int 999999999989))), .set 4 (.p (.bin .Add (.bin .Mult (.var 4) (.bin .Pow (.int 10) (.int 11))) (.bin .Mod (.bin .Mult (.var 3) (.bin .Add (.bin .Mod (.var 3) (.int 65537)) (.int 3))) (.int 99999999977))))], .ret (.p (.lst [(.var 4)]))]⟩
/-- _law_take: number 22 -/
def Q_take : FD := ⟨["_law_pool_here", "_law_many", "_law_digit"], 2,
  [.asg (.tup [(.item 0 (.int 0)), (.name 2)]) (.p (.bi .divmod [(.ix (.var 0) (.int 0)), (.var 1)])), .ret (.p (.var 2))]⟩
/-- _law_some_shades: number 23 -/
def Q_some_shades : FD := ⟨["_law_pool_here", "_law_many", "_law_words", "_law_found", "_law_turn", "_law_place", "_law_letters", "_law_some", "_law_size", "_law_word_here", "_law_letter", "_law_one"], 2,
  [.set 2 (.p (.lst [(.str "run"), (.str "row"), (.str "fold"), (.str "left"), (.str "warp"), (.str "weft"), (.str "none"), (.str "put")])), .setO 3 (.p (.lst [])), .loop (.name 4) .range1 [(.var 1)] [.asg (.tup [(.name 8), (.name 9)]) (.tup [(.bin .Add (.p (.int 1)) (.call 22 [(.bor 0), (.p (.int 3))])), (.p (.str ""))]), .loop (.name 5) .range1 [(.var 8)] [.set 9 (.bin .Add (.p (.var 9)) (.ix (.p (.str "abcdefghijklmnopqrstuvwxyz")) (.call 22 [(.bor 0), (.p (.int 26))])))], .iff (.cmp .Eq (.call 22 [(.bor 0), (.p (.int 8))]) (.p (.int 7))) [.set 9 (.sl (.ix (.p (.var 2)) (.call 22 [(.bor 0), (.p (.int 8))])) none (some (.int 3)))] [], .set 6 (.p (.str "abcdefghijklmnopqrstuvwxyz")), .set 7 (.p (.bin .Add (.bin .Add (.lst [(.var 9)]) (.lc [10] .seq [(.var 6)] none (.bin .Add (.sl (.var 9) none (some (.int 1))) (.var 10)))) (.lc [10] .seq [(.var 6)] none (.bin .Add (.var 10) (.var 10))))), .app 3 (.p (.ix (.lc [11] .seq [(.var 7)] (some (.cmp .NotIn (.var 11) (.var 3))) (.var 11)) (.int 0)))], .retO 3]⟩
/-- _law_drawn_stripes: number 24 -/
def Q_drawn_stripes : FD := ⟨["_law_pool_here", "_law_shades", "_law_most", "_law_wide", "_law_found", "_law_turn"], 4,
  [.setO 4 (.p (.lst [])), .loopI (.name 5) .range1 (.bin .Add (.p (.int 1)) (.call 22 [(.bor 0), (.p (.var 2))])) [.app 4 (.tup [(.ix (.p (.var 1)) (.call 22 [(.bor 0), (.p (.bi .len [(.var 1)]))])), (.bin .Add (.p (.int 1)) (.call 22 [(.bor 0), (.p (.var 3))]))])], .ret (.p (.bi .tuple [(.var 4)]))]⟩
/-- _law_threads: number 25 -/
def Q_threads : FD := ⟨["_law_stripes", "_law_found", "_law_shade", "_law_count"], 1,
  [.setO 1 (.p (.lst [])), .loop (.tup [(.name 2), (.name 3)]) .seq [(.var 0)] [.ext 1 (.p (.bin .Mult (.lst [(.var 2)]) (.var 3)))], .retO 1]⟩
/-- _law_word: number 26 -/
def Q_word : FD := ⟨["_law_words", "_law_manner"], 2,
  [.iff (.p (.or (.cmp .Eq (.bi .len [(.var 0)]) (.int 1)) (.cmp .Eq (.var 1) (.str "run")))) [.ret (.p (.bi .list [(.var 0)]))] [], .iff (.p (.cmp .Eq (.var 1) (.str "pivot"))) [.ret (.p (.bin .Add (.var 0) (.rev (.sl (.var 0) (some (.int 1)) (some (.neg (.int 1)))))))] [], .iff (.p (.cmp .Eq (.var 1) (.str "fold"))) [.ret (.p (.bin .Add (.var 0) (.rev (.var 0))))] [], .iff (.p (.cmp .Eq (.var 1) (.str "left"))) [.ret (.p (.bin .Add (.var 0) (.rev (.sl (.var 0) (some (.int 1)) none))))] [], .ret (.p (.bin .Add (.var 0) (.rev (.sl (.var 0) none (some (.neg (.int 1)))))))]⟩
/-- _law_least_round: number 27 -/
def Q_least_round : FD := ⟨["_law_words", "_law_size"], 1,
  [.loop (.name 1) .range2 [(.int 1), (.bi .len [(.var 0)])] [.iff (.p (.and (.cmp .Eq (.bin .Mod (.bi .len [(.var 0)]) (.var 1)) (.int 0)) (.cmp .Eq (.bin .Mult (.sl (.var 0) none (some (.var 1))) (.bin .FloorDiv (.bi .len [(.var 0)]) (.var 1))) (.var 0)))) [.ret (.p (.var 1))] []], .ret (.p (.bi .len [(.var 0)]))]⟩
/-- _law_due: number 28 -/
def Q_due : FD := ⟨["_law_stripes", "_law_manner", "_law_start", "_law_words", "_law_size", "_law_spot"], 3,
  [.set 3 (.p (.call 26 [(.call 25 [(.var 0)]), (.var 1)])), .set 4 (.p (.call 27 [(.var 3)])), .ret (.p (.lc [5] .range1 [(.var 4)] none (.ix (.var 3) (.bin .Mod (.bin .Add (.var 5) (.var 2)) (.bi .len [(.var 3)])))))]⟩
/-- _law_drawn_row: number 29 -/
def Q_drawn_row : FD := ⟨["_law_pool_here", "_law_shades", "_law_manner", "_law_stripes", "_law_start", "_law_row", "_law_words", "_law_tack", "_law_by", "_law_spot"], 1,
  [.set 1 (.call 23 [(.bor 0), (.bin .Add (.p (.int 1)) (.call 22 [(.bor 0), (.p (.int 4))]))]), .set 2 (.ix (.p (.lst [(.str "run"), (.str "run"), (.str "pivot"), (.str "fold"), (.str "left"), (.str "right")])) (.call 22 [(.bor 0), (.p (.int 6))])), .set 3 (.call 24 [(.bor 0), (.p (.var 1)), (.p (.int 3)), (.p (.int 3))]), .set 3 (.bin .Mult (.p (.var 3)) (.bin .Add (.p (.int 1)) (.bin .FloorDiv (.call 22 [(.bor 0), (.p (.int 4))]) (.p (.int 3))))), .set 4 (.ix (.lst [(.bin .Sub (.call 22 [(.bor 0), (.p (.int 20))]) (.p (.int 9))), (.bin .Sub (.call 22 [(.bor 0), (.p (.bin .Add (.bin .Mult (.int 2) (.bin .Pow (.int 10) (.int 30))) (.int 1)))]) (.p (.bin .Pow (.int 10) (.int 30))))]) (.bin .FloorDiv (.call 22 [(.bor 0), (.p (.int 4))]) (.p (.int 3)))), .asg (.tup [(.name 5), (.name 6)]) (.p (.tup [(.make 1 [(.var 3), (.var 2), (.var 4)]), (.call 28 [(.var 3), (.var 2), (.var 4)])])), .asg (.tup [(.name 7), (.name 8)]) (.tup [(.call 22 [(.bor 0), (.p (.int 4))]), (.bin .Sub (.call 22 [(.bor 0), (.p (.int 60))]) (.p (.int 30)))]), .iff (.p (.cmp .Eq (.var 7) (.int 1))) [.asg (.tup [(.name 5), (.name 6)]) (.p (.tup [(.meth 2 (.var 5) [(.var 8)]), (.lc [9] .range1 [(.bi .len [(.var 6)])] none (.ix (.var 6) (.bin .Mod (.bin .Sub (.var 9) (.var 8)) (.bi .len [(.var 6)]))))]))] [], .iff (.p (.cmp .Eq (.var 7) (.int 2))) [.asg (.tup [(.name 5), (.name 6)]) (.p (.tup [(.meth 3 (.var 5) []), (.lc [9] .range1 [(.bi .len [(.var 6)])] none (.ix (.var 6) (.bin .Sub (.int 0) (.var 9))))]))] [], .ret (.p (.tup [(.var 5), (.var 6)]))]⟩
/-- _law_made: number 30 -/
def Q_made : FD := ⟨["_law_words", "_law_half", "_law_word_here"], 1,
  [.set 1 (.p (.bin .FloorDiv (.bi .len [(.var 0)]) (.int 2))), .ret (.p (.make 1 [(.bi .tuple [(.lc [2] .seq [(.bin .Add (.sl (.var 0) (some (.var 1)) none) (.sl (.var 0) none (some (.var 1))))] none (.tup [(.var 2), (.int 1)]))]), (.str "run"), (.bin .Sub (.int 0) (.var 1))]))]⟩
/-- _law_least: number 31 -/
def Q_least : FD := ⟨["_law_words", "_law_k"], 1,
  [.ret (.p (.bi .min [(.lc [1] .range1 [(.bi .len [(.var 0)])] none (.bi .tuple [(.bin .Add (.sl (.var 0) (some (.var 1)) none) (.sl (.var 0) none (some (.var 1))))]))]))]⟩
/-- _law_turned: number 32 -/
def Q_turned : FD := ⟨["_law_words", "_law_k"], 1,
  [.ret (.p (.lc [1] .range1 [(.bi .len [(.var 0)])] none (.ix (.var 0) (.bin .Sub (.int 0) (.var 1)))))]⟩
/-- _law_by_way: number 33 -/
def Q_by_way : FD := ⟨["_law_warp", "_law_weft", "_law_way"], 3,
  [.iff (.p (.cmp .In (.var 2) (.lst [(.str "swap"), (.str "right"), (.str "left"), (.str "cross")]))) [.par [0, 1] [(.p (.var 1)), (.p (.var 0))]] [], .iff (.p (.cmp .In (.var 2) (.lst [(.str "mirror"), (.str "half"), (.str "right"), (.str "cross")]))) [.set 0 (.p (.call 32 [(.var 0)]))] [], .iff (.p (.cmp .In (.var 2) (.lst [(.str "flip"), (.str "half"), (.str "left"), (.str "cross")]))) [.set 1 (.p (.call 32 [(.var 1)]))] [], .ret (.p (.tup [(.var 0), (.var 1)]))]⟩
/-- _law_ways: number 34 -/
def Q_ways : FD := ⟨[], 0,
  [.ret (.p (.lst [(.str "stay"), (.str "mirror"), (.str "flip"), (.str "half"), (.str "swap"), (.str "right"), (.str "left"), (.str "cross")]))]⟩
/-- _law_moved: number 35 -/
def Q_moved : FD := ⟨["_law_words", "_law_by", "_law_k"], 2,
  [.ret (.p (.lc [2] .range1 [(.bi .len [(.var 0)])] none (.ix (.var 0) (.bin .Mod (.bin .Sub (.var 2) (.var 1)) (.bi .len [(.var 0)])))))]⟩
/-- _law_ways_due: number 36 -/
def Q_ways_due : FD := ⟨["_law_one", "_law_second", "_law_due_here", "_law_found", "_law_way", "_law_words"], 2,
  [.set 2 (.p (.lc [5] .seq [(.var 1)] none (.call 31 [(.var 5)]))), .setO 3 (.p (.lst [])), .loop (.name 4) .seq [(.call0 34)] [.iff (.p (.cmp .Eq (.lc [5] .seq [(.call 33 [(.ix (.var 0) (.int 0)), (.ix (.var 0) (.int 1)), (.var 4)])] none (.call 31 [(.var 5)])) (.var 2))) [.app 3 (.p (.var 4))] []], .ret (.p (.bi .tuple [(.var 3)]))]⟩
/-- _law_cloth: number 37 -/
def Q_cloth : FD := ⟨["_law_parts_here"], 1,
  [.ret (.p (.make 0 [(.call 30 [(.ix (.var 0) (.int 0))]), (.call 30 [(.ix (.var 0) (.int 1))])]))]⟩
/-- _law_parts: number 38 -/
def Q_parts : FD := ⟨["_law_pool_here", "_law_more", "_law_pick", "_law_by", "_law_band", "_law_warp", "_law_filler", "_law_weft"], 2,
  [.asg (.tup [(.tup [(.name 4), (.name 5)]), (.tup [(.name 6), (.name 7)])]) (.tup [(.call 29 [(.bor 0)]), (.call 29 [(.bor 1)])]), .par [2, 3] [(.call 22 [(.bor 1), (.p (.int 6))]), (.call 22 [(.bor 1), (.p (.int 20))])], .iff (.p (.cmp .Lt (.var 2) (.int 3))) [.par [6, 7] [(.p (.meth 2 (.var 4) [(.var 3)])), (.p (.call 35 [(.var 5), (.var 3)]))]] [], .iff (.p (.cmp .In (.var 2) (.lst [(.int 1), (.int 2)]))) [.par [6, 7] [(.p (.meth 3 (.var 6) [])), (.p (.call 32 [(.var 7)]))]] [], .ret (.p (.tup [(.make 0 [(.var 4), (.var 6)]), (.tup [(.var 5), (.var 7)])]))]⟩
/-- _law_others: number 39 -/
def Q_others : FD := ⟨["_law_pool_here", "_law_parts_here", "_law_way", "_law_found", "_law_at", "_law_bent", "_law_warp", "_law_weft"], 2,
  [.set 2 (.ix (.p (.call0 34)) (.call 22 [(.bor 0), (.p (.int 8))])), .asg (.tup [(.name 6), (.name 7)]) (.p (.call 33 [(.ix (.var 1) (.int 0)), (.ix (.var 1) (.int 1)), (.var 2)])), .set 3 (.lst [(.tup [(.call 35 [(.p (.var 6)), (.call 22 [(.bor 0), (.p (.int 30))])]), (.call 35 [(.p (.var 7)), (.call 22 [(.bor 0), (.p (.int 30))])])])]), .set 4 (.call 22 [(.bor 0), (.p (.bi .len [(.var 6)]))]), .set 5 (.p (.bin .Add (.bin .Add (.sl (.var 6) none (some (.var 4))) (.lst [(.ix (.lst [(.str "b"), (.str "zz")]) (.bi .int [(.cmp .Eq (.ix (.var 6) (.var 4)) (.str "b"))]))])) (.sl (.var 6) (some (.bin .Add (.var 4) (.int 1))) none))), .set 3 (.p (.bin .Add (.var 3) (.lst [(.tup [(.sl (.var 5) none (some (.call 27 [(.var 5)]))), (.var 7)]), (.tup [(.ix (.var 1) (.int 1)), (.ix (.var 1) (.int 0))]), (.var 1)]))), .ret (.tup [(.p (.var 2)), (.bin .Add (.p (.var 3)) (.lst [(.tup [(.ix (.call 29 [(.bor 0)]) (.p (.int 1))), (.p (.var 7))])]))])]⟩
/-- _law_own_right: number 40 -/
def Q_own_right : FD := ⟨["_law_woven", "_law_parts_here", "_law_own"], 2,
  [.set 2 (.p (.call 2 [(.var 0), (.var 0)])), .iff (.p (.or (.cmp .NotEq (.var 2) (.call 36 [(.var 1), (.var 1)])) (.or (.cmp .NotIn (.bi .len [(.var 2)]) (.lst [(.int 1), (.int 2), (.int 4), (.int 8)])) (.cmp .NotEq (.ix (.var 2) (.int 0)) (.str "stay"))))) [.ret (.p (.bl false))] [], .ret (.p (.call 41 [(.var 2)]))]⟩
/-- _law_closed: number 41 -/
def Q_closed : FD := ⟨["_law_own", "_law_one", "_law_second"], 1,
  [.loop (.name 1) .seq [(.var 0)] [.loop (.name 2) .seq [(.var 0)] [.iff (.p (.cmp .NotIn (.call 1 [(.var 1), (.var 2)]) (.var 0))) [.ret (.p (.bl false))] []]], .ret (.p (.bl true))]⟩
/-- _law_right: number 42 -/
def Q_right : FD := ⟨["_law_pool_here", "_law_more", "_law_own", "_law_woven", "_law_parts_here", "_law_way", "_law_others_here", "_law_number", "_law_second", "_law_made_here", "_law_found"], 2,
  [.asg (.tup [(.name 3), (.name 4)]) (.call 38 [(.bor 0), (.bor 1)]), .asg (.tup [(.name 5), (.name 6)]) (.call 39 [(.bor 1), (.p (.var 4))]), .set 2 (.p (.call 2 [(.var 3), (.var 3)])), .loop (.tup [(.name 7), (.name 8)]) .enum [(.var 6)] [.set 9 (.p (.call 37 [(.var 8)])), .set 10 (.p (.call 2 [(.var 3), (.var 9)])), .iff (.p (.or (.not (.isi (.var 10) .tuple)) (.cmp .NotEq (.var 10) (.call 36 [(.var 4), (.var 8)])))) [.ret (.p (.bl false))] [], .iff (.p (.or (.cmp .NotEq (.callK 0 [(.var 9), (.var 3)]) (.var 10)) (.cmp .NotEq (.bi .len [(.call 2 [(.var 9), (.var 3)])]) (.bi .len [(.var 10)])))) [.ret (.p (.bl false))] [], .iff (.p (.and (.cmp .Eq (.var 7) (.int 0)) (.or (.cmp .NotIn (.var 5) (.var 10)) (.cmp .NotEq (.bi .len [(.var 10)]) (.bi .len [(.var 2)]))))) [.ret (.p (.bl false))] [], .iff (.p (.and (.cmp .NotEq (.var 10) (.tup [])) (.cmp .NotEq (.bi .len [(.var 10)]) (.bi .len [(.var 2)])))) [.ret (.p (.bl false))] []], .ret (.p (.call 40 [(.var 3), (.var 4)]))]⟩
/-- law: number 43 -/
def Q_main : FD := ⟨["_law_script", "_law_k"], 1,
  [.loop (.name 1) .range1 [(.bi .max2 [(.int 1), (.bi .min2 [(.bi .len [(.var 0)]), (.int 6)])])] [.iff (.not (.call 42 [(.tmp (.p (.call 21 [(.var 0), (.var 1)]))), (.tmp (.p (.call 21 [(.var 0), (.bin .Add (.var 1) (.int 1))])))])) [.ret (.p (.bl false))] []], .ret (.p (.bl true))]⟩
/-- NoStripes.__init__: number 44 -/
def P_NoStripes___init__ : FD := ⟨["self", "number"], 2,
  [.bad, .bad]⟩
/-- TooLong.__init__: number 45 -/
def P_TooLong___init__ : FD := ⟨["self", "long"], 2,
  [.bad, .bad]⟩
/-- NoSpot.__init__: number 46 -/
def P_NoSpot___init__ : FD := ⟨["self", "spot"], 2,
  [.bad, .bad]⟩
/-- NoWay.__init__: number 47 -/
def P_NoWay___init__ : FD := ⟨["self", "way"], 2,
  [.bad, .bad]⟩
/-- Cloth.__init__: number 48 -/
def P_Cloth___init__ : FD := ⟨["self", "warp", "weft"], 3,
  [.fset 0 0 "warp" (.p (.var 1)), .fset 0 0 "weft" (.p (.var 2))]⟩
/-- Cloth.__eq__: number 49 -/
def P_Cloth___eq__ : FD := ⟨["self", "other"], 2,
  [.ret (.p (.and (.isi (.var 1) (.cls 0)) (.and (.oeq 4 (.fld 0 (.var 0) "warp") (.fld 0 (.var 1) "warp")) (.oeq 4 (.fld 0 (.var 0) "weft") (.fld 0 (.var 1) "weft")))))]⟩
/-- Cloth.turned: number 50 -/
def P_Cloth_turned : FD := ⟨["self", "way", "swap", "turn_warp", "turn_weft", "warp", "weft"], 2,
  [.ex (.p (.call 0 [(.var 1)])), .asg (.tup [(.name 2), (.name 3), (.name 4)]) (.p (.kget 0 (.var 1))), .par [5, 6] [(.p (.fld 0 (.var 0) "warp")), (.p (.fld 0 (.var 0) "weft"))], .iff (.p (.var 2)) [.par [5, 6] [(.p (.var 6)), (.p (.var 5))]] [], .iff (.p (.var 3)) [.set 5 (.p (.meth 3 (.var 5) []))] [], .iff (.p (.var 4)) [.set 6 (.p (.meth 3 (.var 6) []))] [], .ret (.p (.make 0 [(.var 5), (.var 6)]))]⟩
/-- Row.__init__: number 51 -/
def P_Row___init__ : FD := ⟨["self", "stripes", "manner", "start", "threads", "lay", "word", "size", "spot"], 4,
  [.set 4 (.p (.call 9 [(.var 1)])), .iff (.p (.not (.call 16 [(.var 2)]))) [.bad] [], .ex (.p (.call 17 [(.var 3)])), .set 5 (.p (.kget 1 (.var 2))), .set 6 (.p (.callV 5 [(.var 4)])), .set 7 (.p (.call 18 [(.var 6)])), .iff (.p (.cmp .Gt (.var 7) (.con 1))) [.bad] [], .fset 0 1 "kept" (.p (.bi .tuple [(.lc [8] .range1 [(.var 7)] none (.ix (.var 6) (.bin .Mod (.bin .Add (.var 8) (.var 3)) (.var 7))))]))]⟩
/-- Row.__eq__: number 52 -/
def P_Row___eq__ : FD := ⟨["self", "other"], 2,
  [.ret (.p (.and (.isi (.var 1) (.cls 1)) (.cmp .Eq (.call 19 [(.fld 1 (.var 0) "kept")]) (.call 19 [(.fld 1 (.var 1) "kept")]))))]⟩
/-- Row.thread: number 53 -/
def P_Row_thread : FD := ⟨["self", "spot"], 2,
  [.ret (.p (.ix (.fld 1 (.var 0) "kept") (.bin .Mod (.var 1) (.bi .len [(.fld 1 (.var 0) "kept")]))))]⟩
/-- Row.moved: number 54 -/
def P_Row_moved : FD := ⟨["self", "by", "spot"], 2,
  [.ex (.p (.call 17 [(.var 1)])), .ret (.p (.call 20 [(.bi .tuple [(.lc [2] .range1 [(.bi .len [(.fld 1 (.var 0) "kept")])] none (.meth 5 (.var 0) [(.bin .Sub (.var 2) (.var 1))]))])]))]⟩
/-- Row.turned: number 55 -/
def P_Row_turned : FD := ⟨["self", "spot"], 1,
  [.ret (.p (.call 20 [(.bi .tuple [(.lc [1] .range1 [(.bi .len [(.fld 1 (.var 0) "kept")])] none (.meth 5 (.var 0) [(.bin .Sub (.int 0) (.var 1))]))])]))]⟩
end LW
/-! SA: what the defs of stripes and rows come to. -/
namespace LW
open PySem PySem.Spec L2 DL WD
/-- the defs of stripes and rows by their numbers, and what they lean on -/
structure PH (fds : Nat → Option FD) (T0 : Tb) : Prop where
  f3 : fds 3 = some P_is_whole
  f4 : fds 4 = some P_is_between
  f5 : fds 5 = some P_is_word
  f6 : fds 6 = some P_is_shade
  f7 : fds 7 = some P_is_stripe
  f8 : fds 8 = some P_check_stripes
  f9 : fds 9 = some P_threads_of
  f10 : fds 10 = some P_merged
  f11 : fds 11 = some P_run_word
  f12 : fds 12 = some P_pivot_word
  f13 : fds 13 = some P_fold_word
  f14 : fds 14 = some P_left_word
  f15 : fds 15 = some P_right_word
  f16 : fds 16 = some P_is_manner
  f17 : fds 17 = some P_check_spot
  f18 : fds 18 = some P_least_round
  f19 : fds 19 = some P_least_begun
  f20 : fds 20 = some P_row_of_threads
  f51 : fds 51 = some P_Row___init__
  f52 : fds 52 = some P_Row___eq__
  f53 : fds 53 = some P_Row_thread
  f54 : fds 54 = some P_Row_moved
  f55 : fds 55 = some P_Row_turned
  con0 : T0.con 0 = .str "abcdefghijklmnopqrstuvwxyz"
  con1 : T0.con 1 = .int 240
  con2 : T0.con 2 = .int 1000000000000000000000000000000
  cls2 : T0.cls 2 = T0.cls 1
  full1 : T0.full 1 = 1
  full2 : T0.full 2 = 1
  meth2 : T0.meth 2 = (1, 54)
  meth3 : T0.meth 3 = (1, 55)
  meth4 : T0.meth 4 = (1, 52)
  meth5 : T0.meth 5 = (1, 53)
  mnm2 : T0.mnm 2 = "moved"
  mnm3 : T0.mnm 3 = "turned"
  mnm4 : T0.mnm 4 = "__eq__"
  mnm5 : T0.mnm 5 = "thread"
  init1 : T0.init 1 = (51, [])
  init2 : T0.init 2 = (51, [.str "run", .int 0])
  kd1 : (T0.kd 1).2 = ([("run", .ref (T0.adr 11)), ("pivot", .ref (T0.adr 12)), ("fold", .ref (T0.adr 13)), ("left", .ref (T0.adr 14)), ("right", .ref (T0.adr 15))] : List (Str × D))
  fn11 : (T0.fns.find? fun j => T0.adr j = T0.adr 11) = some 11
  fn12 : (T0.fns.find? fun j => T0.adr j = T0.adr 12) = some 12
  fn13 : (T0.fns.find? fun j => T0.adr j = T0.adr 13) = some 13
  fn14 : (T0.fns.find? fun j => T0.adr j = T0.adr 14) = some 14
  fn15 : (T0.fns.find? fun j => T0.adr j = T0.adr 15) = some 15
theorem hz : sizeLine = 16777216 := by decide
/-- a shade -/
structure Shd (s : Str) : Prop where
  lo : 1 ≤ s.length
  hi : s.length ≤ 3
  al : ∀ c ∈ s.cps.toList, c ∈ (("abcdefghijklmnopqrstuvwxyz" : Str)).cps.toList
/-- stripes -/
def stD (st : List (Str × Nat)) : List D := st.map fun p => .tup [.str p.1, .int (p.2 : Nat)]
@[simp] theorem stD_length (st : List (Str × Nat)) : (stD st).length = st.length := by simp [stD]
def expand : List (Str × Nat) → List Str
  | [] => []
  | p :: st => List.replicate p.2 p.1 ++ expand st
def many : List (Str × Nat) → Nat
  | [] => 0
  | p :: st => p.2 + many st
theorem expand_length : ∀ st, (expand st).length = many st
  | [] => rfl
  | p :: st => by simp [expand, many, expand_length st]
theorem expand_app : ∀ a b, expand (a ++ b) = expand a ++ expand b
  | [], b => rfl
  | p :: a, b => by simp [expand, expand_app a b]
theorem many_app : ∀ a b, many (a ++ b) = many a + many b
  | [], b => by simp [many]
  | p :: a, b => by simp [many, many_app a b]; omega
theorem mem_expand {s : Str} : ∀ {st : List (Str × Nat)}, s ∈ expand st → ∃ p ∈ st, p.1 = s
  | [], h => by simp [expand] at h
  | p :: st, h => by
    rw [expand, List.mem_append] at h
    rcases h with h | h
    · exact ⟨p, List.mem_cons_self, (List.eq_of_mem_replicate h).symm⟩
    · obtain ⟨q, m, e⟩ := mem_expand h
      exact ⟨q, List.mem_cons_of_mem _ m, e⟩
/-- good stripes -/
structure StOk (st : List (Str × Nat)) : Prop where
  ne : st ≠ []
  sh : ∀ p ∈ st, Shd p.1 ∧ 1 ≤ p.2
  le : many st ≤ 240
theorem len_many : ∀ {st : List (Str × Nat)}, (∀ p ∈ st, 1 ≤ p.2) → st.length ≤ many st
  | [], _ => Nat.le_refl _
  | p :: st, h => by
    have := len_many (st := st) fun q m => h q (List.mem_cons_of_mem _ m)
    have := h p List.mem_cons_self
    simp -implicitDefEqProofs [many]; omega
/-- a good round's threads -/
structure WOk (w : List Str) : Prop where
  pos : 0 < w.length
  sh : ∀ s ∈ w, Shd s
  le : w.length ≤ 240
theorem StOk.w {st : List (Str × Nat)} (h : StOk st) : WOk (expand st) := by
  refine ⟨?_, fun s m => ?_, by rw [expand_length]; exact h.le⟩
  · rw [expand_length]
    have := len_many fun p m => (h.sh p m).2
    have := List.length_pos_iff.mpr h.ne
    omega
  · obtain ⟨p, m, e⟩ := mem_expand m
    exact e ▸ (h.sh p m).1
theorem getD_mem {α : Type} [Inhabited α] {w : List α} {i : Nat} (h : i < w.length) : w.getD i default ∈ w := by
  rw [List.getD_eq_getElem?_getD, List.getElem?_eq_getElem h]
  exact List.getElem_mem h
theorem thr_mem {w : List Str} (h : 0 < w.length) (i : Int) : thr w i ∈ w := by
  have h1 := Int.emod_nonneg i (show (w.length : Int) ≠ 0 by omega)
  have h2 := Int.emod_lt_of_pos i (show (0 : Int) < w.length by omega)
  exact getD_mem (by omega)
theorem mk_mem {w : List Str} (h : 0 < w.length) {n : Nat} {f : Nat → Int} {s : Str} (m : s ∈ mk n fun i => thr w (f i)) : s ∈ w := by
  obtain ⟨i, _, rfl⟩ := mem_mk.mp m
  exact thr_mem h _
theorem WOk.moved {w : List Str} (h : WOk w) (k : Int) : WOk (moved w k) := ⟨by simpa using h.pos, fun s m => h.sh s (mk_mem h.pos m), by simpa using h.le⟩
theorem WOk.turned {w : List Str} (h : WOk w) : WOk (turned w) := ⟨by simpa using h.pos, fun s m => h.sh s (mk_mem h.pos m), by simpa using h.le⟩
theorem at_thr {w : List Str} {i : Int} (h0 : 0 ≤ i) (h1 : i < w.length) : atI (sD w) i = some (.str (thr w i)) := by
  unfold atI ixN
  rw [if_pos h0, sD_length, if_pos h1]
  show (sD w)[i.toNat]? = _
  unfold sD
  rw [List.getElem?_map, thr_get (show i.toNat < w.length by omega)]
  rw [Int.toNat_of_nonneg h0]
  rfl
theorem at_neg {w : List Str} {i : Int} (h0 : i < 0) (h1 : -(w.length : Int) ≤ i) : atI (sD w) i = some (.str (thr w i)) := by
  unfold atI ixN
  rw [if_neg (by omega), sD_length, if_pos h1]
  show (sD w)[(i + w.length).toNat]? = _
  unfold sD
  rw [List.getElem?_map, thr_get (show (i + w.length).toNat < w.length by omega)]
  rw [Int.toNat_of_nonneg (by omega)]
  have := thr_add_mul w i 1
  rw [Int.mul_one] at this
  rw [this]
  rfl
/-- a slot that may be stored into -/
def Fr (z : Slot) : Prop := ∀ m, z ≠ .mu m
theorem Fr.un : Fr .un := fun _ e => by cases e
theorem Fr.im {d : D} : Fr (.im d) := fun _ e => by cases e
theorem stoK_fr {z : Slot} (hz : Fr z) {Γ : List Slot} {i : Nat} {s : Slot} : stoK Γ i s z = some (Γ.set i s) := by
  cases z with
  | mu m => exact absurd rfl (hz m)
  | _ => rfl
theorem stD_get {st : List (Str × Nat)} {k : Nat} {d : D} (h : (stD st)[k]? = some d) : ∃ p, st[k]? = some p ∧ d = .tup [.str p.1, .int (p.2 : Nat)] ∧ p ∈ st := by
  unfold stD at h
  rw [List.getElem?_map] at h
  cases e : st[k]? with
  | none => rw [e] at h; cases h
  | some p =>
    rw [e] at h
    cases h
    exact ⟨p, rfl, rfl, List.mem_of_getElem? e⟩
theorem many_take {st : List (Str × Nat)} {k : Nat} {p : Str × Nat} (h : st[k]? = some p) : many (st.take (k + 1)) = many (st.take k) + p.2 := by
  rw [List.take_add_one, h, many_app]
  simp -implicitDefEqProofs [many]
theorem expand_take {st : List (Str × Nat)} {k : Nat} {p : Str × Nat} (h : st[k]? = some p) : expand (st.take (k + 1)) = expand (st.take k) ++ List.replicate p.2 p.1 := by
  rw [List.take_add_one, h, expand_app]
  simp -implicitDefEqProofs [expand]
theorem many_le {st : List (Str × Nat)} (k : Nat) : many (st.take k) ≤ many st := by
  have : many (st.take k ++ st.drop k) = many st := by rw [List.take_append_drop]
  rw [many_app] at this
  omega
theorem stD_nil {st : List (Str × Nat)} : stD st = [] ↔ st = [] := by simp [stD]
def stP (p : Str × Nat) : PyData := .tuple [.str p.1, .int (p.2 : Nat)]
theorem pyDs_st : ∀ st : List (Str × Nat), pyDs (stD st) = some (st.map stP)
  | [] => rfl
  | p :: st => by
    show (match pyD (.tup [.str p.1, .int (p.2 : Nat)]) with
      | some q => match pyDs (stD st) with | some ps => some (q :: ps) | none => none
      | none => none) = _
    rw [pyDs_st st]
    rfl
theorem depthAll_st : ∀ st : List (Str × Nat), PyData.depthAll (st.map stP) ≤ 1
  | [] => by simp [PyData.depthAll]
  | p :: st => by
    have := depthAll_st st
    simp only [List.map_cons, PyData.depthAll, stP, PyData.depth]
    omega
theorem depth_st (st : List (Str × Nat)) : (PyData.tuple (st.map stP)).depth ≤ 60 := by
  have := depthAll_st st
  rw [PyData.depth]
  omega
theorem eqR_st0 {ra : R} (st : List (Str × Nat)) (hr : ra.lookD = some (.lst (stD st))) : eqR ra (.ow (.lst [])) = some (decide (st = [])) := by
  have e : pyD (.lst (stD st)) = some (.list (st.map stP)) := by
    show (match pyDs (stD st) with | some ps => some (PyData.list ps) | none => none) = _
    rw [pyDs_st]
  have hd : (PyData.list (st.map stP)).depth ≤ 60 := by
    have := depthAll_st st
    rw [PyData.depth]
    omega
  rw [eqR_of hr rfl e rfl hd]
  cases st with
  | nil => simp [PyData.eqv, PyData.eqvAll]
  | cons a st => simp [PyData.eqv, PyData.eqvAll]
theorem stD_app (a b : List (Str × Nat)) : stD (a ++ b) = stD a ++ stD b := by simp [stD]
theorem atI_last {α : Type} (xs : List α) (x : α) : atI (xs ++ [x]) (-1) = some x := by
  unfold atI ixN
  simp
  rw [if_pos (by omega)]
  simp
  have : ((-1 : Int) + ((xs.length : Int) + 1)).toNat = xs.length := by omega
  rw [this]
  simp
theorem ixN_last (n : Nat) : ixN (n + 1) (-1) = some n := by
  unfold ixN
  rw [if_neg (by omega), if_pos (by omega)]
  congr 1
  omega
theorem atI_st (st : List (Str × Nat)) (p : Str × Nat) : atI (stD (st ++ [p])) (-1) = some (.tup [.str p.1, .int (p.2 : Nat)]) := by
  rw [stD_app]
  exact atI_last _ _
theorem set_st (st : List (Str × Nat)) (p q : Str × Nat) : (stD (st ++ [p])).set st.length (.tup [.str q.1, .int (q.2 : Nat)]) = stD (st ++ [q]) := by
  rw [stD_app, stD_app]
  have e : st.length = (stD st).length := by simp
  rw [List.set_append, if_neg (by simp)]
  simp -implicitDefEqProofs [stD]
/-- behind k threads -/
def MgI (w : List Str) (k : Nat) (Γ : List Slot) : Prop := ∃ st x, Γ = [.im (.tup (sD w)), .ow (.lst (stD st)), x] ∧ Fr x ∧ expand st = w.take k ∧ ∀ p ∈ st, 1 ≤ p.2 ∧ p.1 ∈ w
/-- a slice -/
def cutW (w : List Str) (lo hi : Option Int) : List Str := (w.drop (HT.sIx w.length 0 lo)).take (HT.sIx w.length w.length hi - HT.sIx w.length 0 lo)
theorem cutW_le (w : List Str) (lo hi : Option Int) : (cutW w lo hi).length ≤ w.length := by
  unfold cutW
  rw [List.length_take, List.length_drop]
  omega
theorem cutD_sD (w : List Str) (lo hi : Option Int) : cutD (sD w) lo hi = sD (cutW w lo hi) := by
  unfold cutD cutW
  rw [sD_length]
  simp -implicitDefEqProofs [sD]
theorem sD_app (a b : List Str) : sD (a ++ b) = sD a ++ sD b := by simp [sD]
theorem sD_rev (a : List Str) : sD a.reverse = (sD a).reverse := by simp [sD]
/-- the words of the manners, by the numbers of their defs -/
def manF (j : Nat) (w : List Str) : List Str :=
  if j = 11 then w else if j = 12 then w ++ (cutW w (some 1) (some (-1))).reverse else if j = 13 then w ++ w.reverse else if j = 14 then w ++ (cutW w (some 1) none).reverse else w ++ (cutW w none (some (-1))).reverse
def manS (j : Nat) : Str := if j = 11 then "run" else if j = 12 then "pivot" else if j = 13 then "fold" else if j = 14 then "left" else "right"
theorem mem_cutW {w : List Str} {lo hi : Option Int} {s : Str} (m : s ∈ cutW w lo hi) : s ∈ w := List.mem_of_mem_drop (List.mem_of_mem_take m)
theorem manF_mem {j : Nat} {w : List Str} {s : Str} (m : s ∈ manF j w) : s ∈ w := by
  unfold manF at m
  repeat' split at m
  · exact m
  all_goals
    rcases List.mem_append.mp m with m | m
    · exact m
    · rw [List.mem_reverse] at m
      first | exact m | exact mem_cutW m
theorem manF_length (j : Nat) (w : List Str) : w.length ≤ (manF j w).length ∧ (manF j w).length ≤ 2 * w.length := by
  have l1 := cutW_le w (some 1) (some (-1))
  have l2 := cutW_le w (some 1) none
  have l3 := cutW_le w none (some (-1))
  unfold manF
  repeat' split
  all_goals (try rw [List.length_append, List.length_reverse])
  all_goals omega
theorem range_get {f : Nat → D} {n k : Nat} {d : D} (h : ((List.range n).map f)[k]? = some d) : k < n ∧ d = f k := by
  rw [List.getElem?_map, Option.map_eq_some_iff] at h
  obtain ⟨a, h1, rfl⟩ := h
  obtain ⟨h2, h3⟩ := List.getElem?_eq_some_iff.mp h1
  rw [List.length_range] at h2
  rw [List.getElem_range] at h3
  exact ⟨h2, by rw [h3]⟩
theorem cut_drop {ds : List D} {z : Int} (h0 : 0 ≤ z) (h1 : z ≤ ds.length) : cutD ds (some z) none = ds.drop z.toNat := by
  obtain ⟨k, rfl⟩ := Int.eq_ofNat_of_zero_le h0
  unfold cutD
  rw [HT.sIx_nat, HT.sIx_none, Nat.min_eq_left (by omega), Int.toNat_natCast]
  exact List.take_of_length_le (by rw [List.length_drop]; omega)
theorem cut_take {ds : List D} {z : Int} (h0 : 0 ≤ z) (h1 : z ≤ ds.length) : cutD ds none (some z) = ds.take z.toNat := by
  obtain ⟨k, rfl⟩ := Int.eq_ofNat_of_zero_le h0
  unfold cutD
  rw [HT.sIx_nat, HT.sIx_none, Nat.min_eq_left (by omega), Int.toNat_natCast]
  simp
/-- no round up to k -/
def RdI (w : List Str) (k : Nat) (Γ : List Slot) : Prop := ∃ x, Γ = [.im (.tup (sD w)), .im (.int (w.length : Nat)), x] ∧ Fr x ∧ ∀ d, 1 ≤ d → d ≤ k → isRnd w d = false
theorem blsD_map {α : Type} (p : α → Bool) : ∀ l : List α, blsD (l.map fun x => D.bl (p x)) = some (l.map p)
  | [] => rfl
  | a :: l => by
    show (blsD (l.map fun x => D.bl (p x))).map _ = _
    rw [blsD_map p l]; rfl
theorem intsD_map : ∀ l : List Int, intsD (l.map D.int) = some l
  | [] => rfl
  | a :: l => by
    show (intsD (l.map D.int)).map _ = _
    rw [intsD_map l]; rfl
section
variable {fds : Nat → Option FD} {T0 : Tb} (h : PH fds T0)
include h
theorem sp_whole (d : Nat) (i : Int) : callN 40 fds T0 (d + 1) 3 [.im (.int i)] = some (.ret (.im (.bl true)) [.im (.int i)]) := by
  rw [callN_def h.f3 d _ rfl]
  apply wp_eq
  simp -implicitDefEqProofs [P_is_whole, isiD]
theorem sp_between (d : Nat) (x lo hi : Int) : callN 40 fds T0 (d + 2) 4 [.im (.int x), .im (.int lo), .im (.int hi)] = some (.ret (.im (.bl (decide (lo ≤ x) && decide (x ≤ hi)))) [.im (.int x), .im (.int lo), .im (.int hi)]) := by
  rw [callN_def h.f4 (d + 1) _ rfl]
  apply wp_eq
  simp -implicitDefEqProofs [P_is_between, sp_whole h]
theorem sp_spot (d : Nat) (x : Int) (h1 : -1000000000000000000000000000000 ≤ x) (h2 : x ≤ 1000000000000000000000000000000) : callN 40 fds T0 (d + 3) 17 [.im (.int x)] = some (.ret (.im .non) [.im (.int x)]) := by
  rw [callN_def h.f17 (d + 2) _ rfl]
  apply wp_eq
  simp -implicitDefEqProofs [P_check_spot, sp_between h, h.con2, h1, h2]
theorem sp_shade (d : Nat) (s : Str) (hs : Shd s) : callN 40 fds T0 (d + 2) 6 [.im (.str s)] = some (.ret (.im (.bl true)) [.im (.str s)]) := by
  have e : callN 40 fds T0 (d + 1) 5 [.im (.str s), .im (.int 3)] = some (.ret (.im (.bl true)) [.im (.str s), .im (.int 3)]) := by
    have h1 := hs.lo
    have h2 := hs.hi
    have z : ∀ n, evP (tbN 40 fds T0 d) (n + 3) (.lc [2] .seq [(.var 0)] none (.cmp .In (.var 2) (.con 0))) [.im (.str s), .im (.int 3), .un] = some (.ow (.lst (s.cps.toList.map fun _ => .bl true))) := by
      intro n
      rw [evP_lcS (r := .im (.str s)) (ds := s.cps.toList.map fun c => D.str ⟨#[c]⟩) (g := fun _ => .bl true) (by simp) rfl (by simp [hz]; show s.length ≤ _; omega) (by simp) fun x hx => ?_]
      · rw [List.map_map]; rfl
      obtain ⟨c, hc, rfl⟩ := List.mem_map.mp hx
      have := hs.al c hc
      apply wp_eq
      simp -implicitDefEqProofs [h.con0, cmpR, inR]
      exact ⟨rfl, by simpa using this⟩
    rw [callN_def h.f5 d _ rfl]
    apply wp_eq
    simp -implicitDefEqProofs [P_is_word, isiD, z, biR, R.lst?, R.seq?, blsD_map (fun _ => true), hz]
    omega
  rw [callN_def h.f6 (d + 1) _ rfl]
  apply wp_eq
  simp -implicitDefEqProofs [P_is_shade, e]
theorem sp_stripe (d : Nat) (s : Str) (n : Nat) (hs : Shd s) (hn : 1 ≤ n) : callN 40 fds T0 (d + 3) 7 [.im (.tup [.str s, .int n])] = some (.ret (.im (.bl true)) [.im (.tup [.str s, .int n])]) := by
  rw [callN_def h.f7 (d + 2) _ rfl]
  apply wp_eq
  simp -implicitDefEqProofs [P_is_stripe, isiD, biR, R.seq?, ixR, atI, ixN, sp_shade h _ s hs, sp_whole h]
  omega
theorem sp_check (d : Nat) (st : List (Str × Nat)) (hs : StOk st) : callN 40 fds T0 (d + 4) 8 [.im (.tup (stD st))] = some (.ret (.im .non) [.im (.tup (stD st))]) := by
  rw [callN_def h.f8 (d + 3) _ rfl]
  apply wp_eq
  have hlen := len_many fun p m => (hs.sh p m).2
  have hle := hs.le
  simp -implicitDefEqProofs [P_check_stripes, isiD, eqR_tup0 (stD st) _ (pyDs_st st) (depth_st st), hz, hs.ne, stD_nil, itK, itR]
  refine loopR_wp (I := fun k Γ => ∃ x y, Γ = [.im (.tup (stD st)), .im (.int (many (st.take k) : Nat)), x, y] ∧ Fr x ∧ Fr y) ⟨.un, .un, rfl, .un, .un⟩ ?_ ?_
  · rintro k e Γ he ⟨x, y, rfl, hx, hy⟩
    simp only [List.getElem?_map, List.getElem?_zipIdx, Option.map_eq_some_iff] at he
    obtain ⟨⟨a, i⟩, ⟨a', ha, e1⟩, rfl⟩ := he
    cases e1
    obtain ⟨p, hp, rfl, hm⟩ := stD_get ha
    have hq := hs.sh p hm
    have hmt := many_take hp
    have hml := many_le (st := st) (k + 1)
    simp -implicitDefEqProofs [turnS_eq, stoK_fr hx, stoK_fr hy, sp_stripe h _ _ _ hq.1 hq.2, ixR, atI, ixN, h.con1]
    exact ⟨by omega, fun _ => ⟨_, _, ⟨by omega, rfl, rfl⟩, .im, .im⟩⟩
  · rintro Γ ⟨x, y, rfl, hx, hy⟩
    simp
theorem sp_threads (d : Nat) (st : List (Str × Nat)) (hs : StOk st) : callN 40 fds T0 (d + 5) 9 [.im (.tup (stD st))] = some (.ret (.im (.tup (sD (expand st)))) [.im (.tup (stD st))]) := by
  rw [callN_def h.f9 (d + 4) _ rfl]
  apply wp_eq
  have hle := hs.le
  simp -implicitDefEqProofs [P_threads_of, sp_check h _ st hs, hz, itK, itR]
  refine loopR_wp (I := fun k Γ => ∃ x y, Γ = [.im (.tup (stD st)), .ow (.lst (sD (expand (st.take k)))), x, y] ∧ Fr x ∧ Fr y) ⟨.un, .un, rfl, .un, .un⟩ ?_ ?_
  · rintro k e Γ he ⟨x, y, rfl, hx, hy⟩
    obtain ⟨p, hp, rfl, hm⟩ := stD_get he
    have hq := hs.sh p hm
    have hmt := many_take hp
    have hml := many_le (st := st) (k + 1)
    simp -implicitDefEqProofs [turnS_eq, stoK_fr hx, stoK_fr hy, hz, binR, repR, R.lst?, expand_length]
    exact ⟨⟨by omega, by omega⟩, by omega, _, _, ⟨by rw [expand_take hp]; simp [sD], rfl, rfl⟩, .im, .im⟩
  · rintro Γ ⟨x, y, rfl, hx, hy⟩
    simp -implicitDefEqProofs [biR, R.seq?]
/-- the threads put together: whatever stripes, they have these threads -/
theorem sp_merged (d : Nat) (w : List Str) (hw : w.length ≤ 240) : ∃ st : List (Str × Nat), expand st = w ∧ (∀ p ∈ st, 1 ≤ p.2 ∧ p.1 ∈ w) ∧ callN 40 fds T0 (d + 1) 10 [.im (.tup (sD w))] = some (.ret (.im (.tup (stD st))) [.im (.tup (sD w))]) := by
  suffices z : Wp (callN 40 fds T0 (d + 1) 10 [.im (.tup (sD w))]) fun o => ∃ st : List (Str × Nat), expand st = w ∧ (∀ p ∈ st, 1 ≤ p.2 ∧ p.1 ∈ w) ∧ o = .ret (.im (.tup (stD st))) [.im (.tup (sD w))] by
    obtain ⟨o, e, st, h1, h2, rfl⟩ := z
    exact ⟨st, h1, h2, e⟩
  rw [callN_def h.f10 d _ rfl]
  simp -implicitDefEqProofs [P_merged, hz, itK, itR]
  refine loopR_wp (I := MgI w) ⟨[], .un, rfl, .un, by simp [expand], by simp⟩ ?_ ?_
  · rintro k e Γ he ⟨st, x, rfl, hx, h1, h2⟩
    unfold sD at he
    rw [List.getElem?_map] at he
    simp at he
    obtain ⟨s, hs, rfl⟩ := he
    have hlt := (List.getElem?_eq_some_iff.mp hs).1
    have h3 : w.take (k + 1) = w.take k ++ [s] := by rw [List.take_add_one, hs]; rfl
    have hsw : s ∈ w := List.mem_of_getElem? hs
    have fin : ∀ st', expand st' = w.take (k + 1) → (∀ p ∈ st', 1 ≤ p.2 ∧ p.1 ∈ w) → MgI w (k + 1) [.im (.tup (sD w)), .ow (.lst (stD st')), .im (.str s)] :=
      fun st' q1 q2 => ⟨st', _, rfl, .im, q1, q2⟩
    have f1 := fin (st ++ [(s, 1)]) (by rw [expand_app, h1, h3]; rfl) (by
      intro p hp
      rcases List.mem_append.mp hp with m | m
      · exact h2 p m
      · rw [List.mem_singleton] at m; subst m; exact ⟨Nat.le_refl _, hsw⟩)
    rw [stD_app] at f1
    have hln : st.length ≤ w.length := by
      have l1 := len_many fun p m => (h2 p m).1
      have l2 := expand_length st
      rw [h1, List.length_take] at l2
      omega
    rcases List.eq_nil_or_concat st with e | ⟨st', p, e⟩
    · subst e
      rw [turnS_eq]
      simp -implicitDefEqProofs [stoK_fr hx, hz, eqR_st0 (ra := .vo (.lst (stD []))) [] rfl]
      exact f1
    · rw [List.concat_eq_append] at e
      subst e
      have hr : R.lookD (.vo (.lst (stD (st' ++ [p])))) = some (.lst (stD (st' ++ [p]))) := rfl
      rw [turnS_eq]
      simp only [List.length_append, List.length_singleton] at hln
      have hp := h2 p (by simp)
      have f2 : p.1 = s → MgI w (k + 1) [.im (.tup (sD w)), .ow (.lst ((stD (st' ++ [p])).set st'.length (.tup [.str s, .int (p.2 + 1 : Nat)]))), .im (.str s)] := by
        intro q
        have := set_st st' p (s, p.2 + 1)
        simp only at this
        rw [this]
        refine fin _ ?_ ?_
        · rw [expand_app] at h1 ⊢
          rw [h3, ← h1, List.append_assoc]
          congr 1
          subst q
          simp [expand, List.replicate_succ']
        · intro z hz
          rcases List.mem_append.mp hz with m | m
          · exact h2 z (List.mem_append_left _ m)
          · rw [List.mem_singleton] at m; subst m; exact ⟨by simp, hsw⟩
      rw [Int.natCast_add] at f2
      simp -implicitDefEqProofs [stoK_fr hx, hz, eqR_st0 _ hr, ixR, R.lsq?, atI_st, ixN_last]
      exact ⟨f2, fun _ => ⟨by omega, f1⟩⟩
  · rintro Γ ⟨st, x, rfl, hx, h1, h2⟩
    simp -implicitDefEqProofs [biR, R.seq?]
    exact ⟨st, by simpa using h1, fun a b m => h2 (a, b) m, rfl⟩
theorem sp_round (d : Nat) (w : List Str) (hn : 0 < w.length) (hw : w.length ≤ 480) : callN 40 fds T0 (d + 1) 18 [.im (.tup (sD w))] = some (.ret (.im (.int (lrnd w : Nat))) [.im (.tup (sD w))]) := by
  rw [callN_def h.f18 d _ rfl]
  apply wp_eq
  simp -implicitDefEqProofs [P_least_round, biR, R.seq?, itK, itR]
  refine ⟨by omega, ?_⟩
  refine loopR_wp (I := RdI w) ⟨.un, rfl, .un, fun _ _ _ => by omega⟩ ?_ ?_
  · rintro k e Γ he ⟨x, rfl, hx, hk⟩
    obtain ⟨ha, rfl⟩ := range_get he
    have c1 : cutD (sD w) (some (1 + (k : Int))) none = sD (w.drop (k + 1)) := by
      rw [cut_drop (by omega) (by simp; omega)]
      have : (1 + (k : Int)).toNat = k + 1 := by omega
      rw [this]; simp [sD]
    have c2 : cutD (sD w) none (some ((w.length : Int) - (1 + (k : Int)))) = sD (w.take (w.length - (k + 1))) := by
      rw [cut_take (by omega) (by simp; omega)]
      have : ((w.length : Int) - (1 + (k : Int))).toNat = w.length - (k + 1) := by omega
      rw [this]; simp [sD]
    have hm : ((w.length : Int) % (1 + (k : Int)) = 0) ↔ w.length % (k + 1) = 0 := by
      have : (1 + (k : Int)) = ((k + 1 : Nat) : Int) := by omega
      rw [this, ← Int.natCast_emod]
      omega
    rw [turnS_eq]
    simp -implicitDefEqProofs [stoK_fr hx, binR_mod, slR, c1, c2, hm]
    have hr : isRnd w (k + 1) = (decide (w.length % (k + 1) = 0) && decide (w.drop (k + 1) = w.take (w.length - (k + 1)))) := rfl
    have go : isRnd w (k + 1) = false → RdI w (k + 1) [.im (.tup (sD w)), .im (.int (w.length : Nat)), .im (.int (1 + (k : Int)))] := fun q =>
      ⟨_, rfl, .im, fun d h1 h2 => by
        rcases Nat.lt_or_ge k d with z | z
        · obtain rfl : d = k + 1 := by omega
          exact q
        · exact hk d h1 z⟩
    refine ⟨by omega, fun q1 => ⟨fun q2 => ?_, fun q2 => go ?_⟩, fun q1 => go ?_⟩
    · rw [lrnd_first hk (by rw [hr]; simp [q1, q2]) (by omega)]
      omega
    · rw [hr]; simp [q2]
    · rw [hr]; simp [q1]
  · rintro Γ ⟨x, rfl, hx, hk⟩
    rw [List.length_map, List.length_range] at hk
    simp -implicitDefEqProofs [lrnd_none hk]
theorem sp_begun (d : Nat) (w : List Str) (hn : 0 < w.length) (hw : w.length ≤ 240) : callN 40 fds T0 (d + 1) 19 [.im (.tup (sD w))] = some (.ret (.im (.tup (sD (least w)))) [.im (.tup (sD w))]) := by
  rw [callN_def h.f19 d _ rfl]
  apply wp_eq
  have z : ∀ n, evP (tbN 40 fds T0 d) (n + 4) (.lc [1] .range1 [(.bi .len [(.var 0)])] none (.bin .Add (.sl (.var 0) (some (.var 1)) none) (.sl (.var 0) none (some (.var 1))))) [.im (.tup (sD w)), .un] = some (.ow (.lst ((rots w).map fun v => .tup (sD v)))) := by
    intro n
    rw [evP_lcR (m := w.length) (g := fun k => .tup (sD (rot w k))) (by apply wp_eq; simp [biR, R.seq?]) (by rw [hz]; omega) (by simp)]
    · unfold rots mk
      rw [List.map_map]; rfl
    · intro k hk
      have c1 : cutD (sD w) (some (k : Int)) none = sD (w.drop k) := by
        rw [cut_drop (by omega) (by simp; omega)]
        simp [sD]
      have c2 : cutD (sD w) none (some (k : Int)) = sD (w.take k) := by
        rw [cut_take (by omega) (by simp; omega)]
        simp [sD]
      apply wp_eq
      simp -implicitDefEqProofs [slR, c1, c2, binR_tup, hz, rot]
      exact ⟨by omega, by simp [sD]⟩
  simp -implicitDefEqProofs [P_least_begun, z, biR_min (rots_ne hn)]
  rfl
theorem sp_thread (d : Nat) (w : List Str) (i : Int) (hn : 0 < w.length) : callN 40 fds T0 (d + 1) 53 [.im (.ins (T0.cls 1) [("kept", .tup (sD w))]), .im (.int i)] = some (.ret (.im (.str (thr w i))) [.im (.ins (T0.cls 1) [("kept", .tup (sD w))]), .im (.int i)]) := by
  rw [callN_def h.f53 d _ rfl]
  apply wp_eq
  have h1 := Int.emod_nonneg i (show (w.length : Int) ≠ 0 by omega)
  have h2 := Int.emod_lt_of_pos i (show (0 : Int) < w.length by omega)
  simp -implicitDefEqProofs [P_Row_thread, biR, R.seq?, binR_mod, ixR, at_thr h1 h2, thr_mod, hn]
theorem sp_man (d j : Nat) (hj : j = 11 ∨ j = 12 ∨ j = 13 ∨ j = 14 ∨ j = 15) (w : List Str) (hw : w.length ≤ 240) : callN 40 fds T0 (d + 1) j [.im (.tup (sD w))] = some (.ret (.im (.tup (sD (manF j w)))) [.im (.tup (sD w))]) := by
  have l1 := cutW_le w (some 1) (some (-1))
  have l2 := cutW_le w (some 1) none
  have l3 := cutW_le w none (some (-1))
  rcases hj with rfl | rfl | rfl | rfl | rfl
  · rw [callN_def h.f11 d _ rfl]
    apply wp_eq
    simp -implicitDefEqProofs [P_run_word, manF]
  · rw [callN_def h.f12 d _ rfl]
    apply wp_eq
    simp -implicitDefEqProofs [P_pivot_word, manF, slR, revR, cutD_sD, binR_tup, hz, sD_app, sD_rev]
    omega
  · rw [callN_def h.f13 d _ rfl]
    apply wp_eq
    simp -implicitDefEqProofs [P_fold_word, manF, slR, revR, cutD_sD, binR_tup, hz, sD_app, sD_rev]
    omega
  · rw [callN_def h.f14 d _ rfl]
    apply wp_eq
    simp -implicitDefEqProofs [P_left_word, manF, slR, revR, cutD_sD, binR_tup, hz, sD_app, sD_rev]
    omega
  · rw [callN_def h.f15 d _ rfl]
    apply wp_eq
    simp -implicitDefEqProofs [P_right_word, manF, slR, revR, cutD_sD, binR_tup, hz, sD_app, sD_rev]
    omega
end
end LW
/-! SB: rows: making, moving, turning, ==. -/
namespace LW
open PySem PySem.Spec L2 DL WD
@[simp] theorem ne_thread : ¬ Str.ofString "thread" = Str.ofString "kept" := by decide +kernel
@[simp] theorem ne_moved : ¬ Str.ofString "moved" = Str.ofString "kept" := by decide +kernel
@[simp] theorem ne_turned : ¬ Str.ofString "turned" = Str.ofString "kept" := by decide +kernel
@[simp] theorem ne_turnC1 : ¬ Str.ofString "turned" = Str.ofString "warp" := by decide +kernel
@[simp] theorem ne_turnC2 : ¬ Str.ofString "turned" = Str.ofString "weft" := by decide +kernel
@[simp] theorem ne_weft : ¬ Str.ofString "weft" = Str.ofString "warp" := by decide +kernel
@[simp] theorem look_weft (x y : D) : List.lookup (Str.ofString "weft") [(Str.ofString "warp", x), (Str.ofString "weft", y)] = some y := (rfl)
section
variable {fds : Nat → Option FD} {T0 : Tb} (h : PH fds T0)
include h
theorem kd_look {j : Nat} (hj : j = 11 ∨ j = 12 ∨ j = 13 ∨ j = 14 ∨ j = 15) : (T0.kd 1).2.lookup (manS j) = some (.ref (T0.adr j)) := by
  rw [h.kd1]
  rcases hj with rfl | rfl | rfl | rfl | rfl
  all_goals rfl
theorem fn_find {j : Nat} (hj : j = 11 ∨ j = 12 ∨ j = 13 ∨ j = 14 ∨ j = 15) : (T0.fns.find? fun i => T0.adr i = T0.adr j) = some j := by
  rcases hj with rfl | rfl | rfl | rfl | rfl
  · exact h.fn11
  · exact h.fn12
  · exact h.fn13
  · exact h.fn14
  · exact h.fn15
theorem fn_find' (d : Nat) {j : Nat} (hj : j = 11 ∨ j = 12 ∨ j = 13 ∨ j = 14 ∨ j = 15) : ((tbN 40 fds T0 d).fns.find? fun i => (tbN 40 fds T0 d).adr i = T0.adr j) = some j := fn_find h hj
theorem sp_isman (d j : Nat) (hj : j = 11 ∨ j = 12 ∨ j = 13 ∨ j = 14 ∨ j = 15) : callN 40 fds T0 (d + 1) 16 [.im (.str (manS j))] = some (.ret (.im (.bl true)) [.im (.str (manS j))]) := by
  rw [callN_def h.f16 d _ rfl]
  apply wp_eq
  simp [P_is_manner, isiD, kd_look h hj]
theorem sp_init (d j : Nat) (hj : j = 11 ∨ j = 12 ∨ j = 13 ∨ j = 14 ∨ j = 15) (st : List (Str × Nat)) (hs : StOk st) (b : Int) (b1 : -1000000000000000000000000000000 ≤ b) (b2 : b ≤ 1000000000000000000000000000000) (hr : lrnd (manF j (expand st)) ≤ 240) :
    callN 40 fds T0 (d + 6) 51 [.mu (.ins (T0.cls 1) []), .im (.tup (stD st)), .im (.str (manS j)), .im (.int b)] = some (.ret (.im .non) [.mu (.ins (T0.cls 1) [("kept", .tup (sD (root (manF j (expand st)) b)))]), .im (.tup (stD st)), .im (.str (manS j)), .im (.int b)]) := by
  rw [callN_def h.f51 (d + 5) _ rfl]
  apply wp_eq
  have hw := hs.w
  have hl := manF_length j (expand st)
  have h1 := hw.pos
  have h2 := hw.le
  have hn : 0 < (manF j (expand st)).length := by omega
  obtain ⟨r1, r2, r3, r4⟩ := lrnd_spec hn
  have z : ∀ n x, evP (tbN 40 fds T0 (d + 5)) (n + 5) (.lc [8] .range1 [(.var 7)] none (.ix (.var 6) (.bin .Mod (.bin .Add (.var 8) (.var 3)) (.var 7))))
      [.mu (.ins (T0.cls 1) []), .im (.tup (stD st)), .im (.str (manS j)), .im (.int b), .im (.tup (sD (expand st))), x, .im (.tup (sD (manF j (expand st)))), .im (.int (lrnd (manF j (expand st)) : Nat)), .un] = some (.ow (.lst (sD (root (manF j (expand st)) b)))) := by
    intro n x
    rw [evP_lcR (m := lrnd (manF j (expand st))) (g := fun k => .str (thr (manF j (expand st)) ((k : Int) + b))) (by apply wp_eq; simp) (by rw [hz]; omega) (by simp)]
    · unfold root mk sD
      rw [List.map_map]; rfl
    · intro k hk
      have e1 := Int.emod_nonneg ((k : Int) + b) (show ((lrnd (manF j (expand st)) : Nat) : Int) ≠ 0 by omega)
      have e2 := Int.emod_lt_of_pos ((k : Int) + b) (show (0 : Int) < ((lrnd (manF j (expand st)) : Nat) : Int) by omega)
      have e3 := lrnd_le hn
      apply wp_eq
      simp [binR_mod, ixR, at_thr (w := manF j (expand st)) e1 (by omega), r1, r3.mod]
  simp -implicitDefEqProofs [-tbN_adr, -tbN_fns, P_Row___init__, sp_threads h _ st hs, sp_isman h _ j hj, sp_spot h _ b b1 b2, kd_look h hj, fn_find' h _ hj, sp_man h _ j hj (expand st) h2, sp_round h _ (manF j (expand st)) hn (by omega), h.con1, z, biR, R.seq?, h.full1, hz]
  omega
/-- a row with these threads from spot 0 on -/
def rowD (T0 : Tb) (w : List Str) : D := .ins (T0.cls 1) [("kept", .tup (sD w))]
theorem sp_rowOf (d : Nat) (w : List Str) (hp : Prim w) (hw : WOk w) : callN 40 fds T0 (d + 7) 20 [.im (.tup (sD w))] = some (.ret (.im (rowD T0 w)) [.im (.tup (sD w))]) := by
  obtain ⟨st, e1, e2, e3⟩ := sp_merged h (d + 5) w hw.le
  have hm : many st = w.length := by rw [← e1, expand_length]
  have hst : StOk st := ⟨fun z => by subst z; simp [many] at hm; have := hw.pos; omega, fun p m => ⟨hw.sh _ (e2 p m).2, (e2 p m).1⟩, by rw [hm]; exact hw.le⟩
  have hi := sp_init h d 11 (.inl rfl) st hst 0 (by decide) (by decide) (by rw [e1]; show lrnd w ≤ 240; rw [hp.2]; exact hw.le)
  have hr : root (manF 11 (expand st)) 0 = w := by
    rw [e1]
    show root w 0 = w
    rw [root_prim hp]
    exact moved_zero hw.pos
  rw [hr] at hi
  have c2 : cutD (sD w) none (some (w.length : Int)) = sD w := by
    rw [cut_take (by omega) (by simp)]
    exact List.take_of_length_le (by simp)
  have hle := hw.le
  have hn := hw.pos
  rw [callN_def h.f20 (d + 6) _ rfl]
  apply wp_eq
  have hi' : callN 40 fds T0 (d + 6) 51 [.mu (.ins (T0.cls 1) []), .im (.tup (stD st)), .im (.str "run"), .im (.int 0)] = _ := hi
  simp -implicitDefEqProofs [P_row_of_threads, sp_round h _ w hn (by omega), hp.2, h.con1, slR, c2, e3, h.init2, h.cls2, h.full2, hi']
  exact ⟨by omega, fun _ => rfl⟩
theorem sp_moved (d : Nat) (w : List Str) (b : Int) (hp : Prim w) (hw : WOk w) (b1 : -1000000000000000000000000000000 ≤ b) (b2 : b ≤ 1000000000000000000000000000000) : callN 40 fds T0 (d + 8) 54 [.im (rowD T0 w), .im (.int b)] = some (.ret (.im (rowD T0 (moved w b))) [.im (rowD T0 w), .im (.int b)]) := by
  have hle := hw.le
  have hn := hw.pos
  have z : ∀ n, evP (tbN 40 fds T0 (d + 7)) (n + 5) (.lc [2] .range1 [(.bi .len [(.fld 1 (.var 0) "kept")])] none (.meth 5 (.var 0) [(.bin .Sub (.var 2) (.var 1))])) [.im (rowD T0 w), .im (.int b), .un] = some (.ow (.lst (sD (moved w b)))) := by
    intro n
    rw [evP_lcR (m := w.length) (g := fun k => .str (thr w ((k : Int) - b))) (by apply wp_eq; simp -implicitDefEqProofs [biR, R.seq?, rowD]) (by rw [hz]; omega) (by simp)]
    · unfold moved mk sD
      rw [List.map_map]; rfl
    · intro k hk
      apply wp_eq
      simp -implicitDefEqProofs [rowD, h.meth5, h.mnm5, sp_thread h _ w _ hn]
  rw [callN_def h.f54 (d + 7) _ rfl]
  apply wp_eq
  simp -implicitDefEqProofs [P_Row_moved, sp_spot h _ b b1 b2, z, biR, R.seq?, sp_rowOf h d (moved w b) (prim_moved hp b) (hw.moved b)]
theorem sp_turned (d : Nat) (w : List Str) (hp : Prim w) (hw : WOk w) : callN 40 fds T0 (d + 8) 55 [.im (rowD T0 w)] = some (.ret (.im (rowD T0 (turned w))) [.im (rowD T0 w)]) := by
  have hle := hw.le
  have hn := hw.pos
  have z : ∀ n, evP (tbN 40 fds T0 (d + 7)) (n + 5) (.lc [1] .range1 [(.bi .len [(.fld 1 (.var 0) "kept")])] none (.meth 5 (.var 0) [(.bin .Sub (.int 0) (.var 1))])) [.im (rowD T0 w), .un] = some (.ow (.lst (sD (turned w)))) := by
    intro n
    rw [evP_lcR (m := w.length) (g := fun k => .str (thr w (-(k : Int)))) (by apply wp_eq; simp -implicitDefEqProofs [biR, R.seq?, rowD]) (by rw [hz]; omega) (by simp)]
    · unfold turned mk sD
      rw [List.map_map]; rfl
    · intro k hk
      apply wp_eq
      simp -implicitDefEqProofs [rowD, h.meth5, h.mnm5, sp_thread h _ w _ hn]
  rw [callN_def h.f55 (d + 7) _ rfl]
  apply wp_eq
  simp -implicitDefEqProofs [P_Row_turned, z, biR, R.seq?, sp_rowOf h d (turned w) (prim_turned hp) (hw.turned)]
theorem sp_req (d : Nat) (w v : List Str) (hw : WOk w) (hv : WOk v) : callN 40 fds T0 (d + 2) 52 [.im (rowD T0 w), .im (rowD T0 v)] = some (.ret (.im (.bl (decide (least w = least v)))) [.im (rowD T0 w), .im (rowD T0 v)]) := by
  rw [callN_def h.f52 (d + 1) _ rfl]
  apply wp_eq
  simp -implicitDefEqProofs [P_Row___eq__, rowD, isiD, sp_begun h _ w hw.pos hw.le, sp_begun h _ v hv.pos hv.le]
end
/-! ### cloths -/
structure PC (fds : Nat → Option FD) (T0 : Tb) : Prop where
  f0 : fds 0 = some P_check_way
  f1 : fds 1 = some P_behind
  f2 : fds 2 = some P_ways_between
  f48 : fds 48 = some P_Cloth___init__
  f49 : fds 49 = some P_Cloth___eq__
  f50 : fds 50 = some P_Cloth_turned
  full0 : T0.full 0 = 2
  meth0 : T0.meth 0 = (0, 49)
  meth1 : T0.meth 1 = (0, 50)
  mnm0 : T0.mnm 0 = "__eq__"
  mnm1 : T0.mnm 1 = "turned"
  init0 : T0.init 0 = (48, [])
  kw0 : T0.kw 0 = (2, [1, 0])
  kd0 : (T0.kd 0).2 = ([("stay", .tup [.bl false, .bl false, .bl false]), ("mirror", .tup [.bl false, .bl true, .bl false]), ("flip", .tup [.bl false, .bl false, .bl true]), ("half", .tup [.bl false, .bl true, .bl true]), ("swap", .tup [.bl true, .bl false, .bl false]), ("right", .tup [.bl true, .bl true, .bl false]), ("left", .tup [.bl true, .bl false, .bl true]), ("cross", .tup [.bl true, .bl true, .bl true])] : List (Str × D))
/-- the word of a way -/
def wayS : Way → Str
  | (false, false, false) => "stay"
  | (false, true, false) => "mirror"
  | (false, false, true) => "flip"
  | (false, true, true) => "half"
  | (true, false, false) => "swap"
  | (true, true, false) => "right"
  | (true, false, true) => "left"
  | (true, true, true) => "cross"
def wayD (g : Way) : D := .tup [.bl g.1, .bl g.2.1, .bl g.2.2]
def clothD (T0 : Tb) (p : List Str × List Str) : D := .ins (T0.cls 0) [("warp", rowD T0 p.1), ("weft", rowD T0 p.2)]
theorem least_turn {w : List Str} (hn : 0 < w.length) : least (turned (least w)) = least (turned w) := by
  have h1 := least_rot hn
  have h2 : 0 < (least w).length := by rw [← h1.1]; exact hn
  exact (least_iff (by simpa using h2) (by simpa using hn)).mpr ((h1.turn hn).symm (by simpa using hn))
def tc (x : List Str) : List Str := least (turned x)
def cl (p : List Str × List Str) : List Str × List Str := (least p.1, least p.2)
theorem cl_byW {p : List Str × List Str} (h1 : 0 < p.1.length) (h2 : 0 < p.2.length) (g : Way) : cl (byW turned g p) = byW tc g (cl p) := by
  obtain ⟨x, y, z⟩ := g
  cases x <;> cases y <;> cases z <;> simp [cl, byW, tc, least_turn h1, least_turn h2]
theorem tc_tc {w : List Str} (hn : 0 < w.length) : tc (tc (least w)) = least w := by
  unfold tc
  rw [least_turn hn, least_turn (by simpa using hn), turned_turned hn]
theorem byW_ok {p : List Str × List Str} (h1 : WOk p.1) (h2 : WOk p.2) (g : Way) : WOk (byW turned g p).1 ∧ WOk (byW turned g p).2 := by
  obtain ⟨x, y, z⟩ := g
  cases x <;> cases y <;> cases z <;> simp [byW, h1, h2, h1.turned, h2.turned]
def wayL (l : List Way) : List Str := l.map wayS
theorem eqR_way (a b : Way) : eqR (.im (wayD a)) (.im (wayD b)) = some (decide (a = b)) := by
  rw [eqR_of (p := .tuple [.bool a.1, .bool a.2.1, .bool a.2.2]) (q := .tuple [.bool b.1, .bool b.2.1, .bool b.2.2]) rfl rfl rfl rfl (by simp [PyData.depth, PyData.depthAll])]
  obtain ⟨a1, a2, a3⟩ := a
  obtain ⟨b1, b2, b3⟩ := b
  cases a1 <;> cases a2 <;> cases a3 <;> cases b1 <;> cases b2 <;> cases b3 <;> simp [PyData.eqv, PyData.eqvAll]
theorem filter_way (b : Way) : ways8.filter (fun g => decide (g = b)) = [b] := by
  obtain ⟨b1, b2, b3⟩ := b
  cases b1 <;> cases b2 <;> cases b3 <;> decide
section
variable {fds : Nat → Option FD} {T0 : Tb} (h : PH fds T0) (hc : PC fds T0)
include hc
theorem way_look (g : Way) : (T0.kd 0).2.lookup (wayS g) = some (wayD g) := by
  rw [hc.kd0]
  obtain ⟨x, y, z⟩ := g
  cases x <;> cases y <;> cases z <;> rfl
theorem ways_kd : (T0.kd 0).2 = ways8.map fun g => (wayS g, wayD g) := by
  rw [hc.kd0]; rfl
theorem sp_way (d : Nat) (g : Way) : callN 40 fds T0 (d + 1) 0 [.im (.str (wayS g))] = some (.ret (.im .non) [.im (.str (wayS g))]) := by
  rw [callN_def hc.f0 d _ rfl]
  apply wp_eq
  simp -implicitDefEqProofs [P_check_way, isiD, way_look hc]
theorem sp_cinit (d : Nat) (a b : D) : callN 40 fds T0 (d + 1) 48 [.mu (.ins (T0.cls 0) []), .im a, .im b] = some (.ret (.im .non) [.mu (.ins (T0.cls 0) [("warp", a), ("weft", b)]), .im a, .im b]) := by
  rw [callN_def hc.f48 d _ rfl]
  apply wp_eq
  simp -implicitDefEqProofs [P_Cloth___init__, hc.full0]
include h
theorem sp_ceq (d : Nat) (p q : List Str × List Str) (p1 : WOk p.1) (p2 : WOk p.2) (q1 : WOk q.1) (q2 : WOk q.2) : callN 40 fds T0 (d + 3) 49 [.im (clothD T0 p), .im (clothD T0 q)] = some (.ret (.im (.bl (decide (least p.1 = least q.1) && decide (least p.2 = least q.2)))) [.im (clothD T0 p), .im (clothD T0 q)]) := by
  have e1 := sp_req h d p.1 q.1 p1 q1
  have e2 := sp_req h d p.2 q.2 p2 q2
  unfold rowD at e1 e2
  rw [callN_def hc.f49 (d + 2) _ rfl]
  apply wp_eq
  simp -implicitDefEqProofs [P_Cloth___eq__, clothD, rowD, isiD, h.meth4, e1, e2]
  by_cases c : least p.1 = least q.1 <;> simp -implicitDefEqProofs [c, fldR_im, h.meth4, e2]
theorem sp_cturn (d : Nat) (g : Way) (p : List Str × List Str) (p1 : WOk p.1) (p2 : WOk p.2) (r1 : Prim p.1) (r2 : Prim p.2) : callN 40 fds T0 (d + 9) 50 [.im (clothD T0 p), .im (.str (wayS g))] = some (.ret (.im (clothD T0 (byW turned g p))) [.im (clothD T0 p), .im (.str (wayS g))]) := by
  have e1 := sp_turned h d p.1 r1 p1
  have e2 := sp_turned h d p.2 r2 p2
  unfold rowD at e1 e2
  rw [callN_def hc.f50 (d + 8) _ rfl]
  apply wp_eq
  have ci := fun a b => sp_cinit hc (d + 7) a b
  obtain ⟨x, y, z⟩ := g
  cases x <;> cases y <;> cases z <;>
    simp -implicitDefEqProofs [P_Cloth_turned, clothD, rowD, sp_way hc, way_look hc, wayD, hz, h.meth3, h.mnm3, hc.init0, hc.full0, e1, e2, ci, byW]
theorem sp_between2 (d : Nat) (p q : List Str × List Str) (p1 : WOk p.1) (p2 : WOk p.2) (r1 : Prim p.1) (r2 : Prim p.2) (q1 : WOk q.1) (q2 : WOk q.2) :
    callN 40 fds T0 (d + 10) 2 [.im (clothD T0 p), .im (clothD T0 q)] = some (.ret (.im (.tup (sD (wayL (found tc (cl p) (cl q)))))) [.im (clothD T0 p), .im (clothD T0 q)]) := by
  have z : ∀ n, evP (tbN 40 fds T0 (d + 9)) (n + 5) (.lc [2] .keys [(.kd 0)] (some (.oeq 0 (.meth 1 (.var 0) [(.var 2)]) (.var 1))) (.var 2)) [.im (clothD T0 p), .im (clothD T0 q), .un] = some (.ow (.lst (sD (wayL (found tc (cl p) (cl q)))))) := by
    intro n
    rw [evP_lcM (l := ways8) (f := fun g => .str (wayS g)) (rs := [.im (.ref (T0.kd 0).1)]) (p := fun g => decide (byW tc g (cl p) = cl q)) (g := fun g => .str (wayS g)) (by apply wp_eq; simp) (by
        show some ((T0.kd 0).2.map fun p => D.str p.1) = _
        rw [ways_kd hc, List.map_map]; rfl) (by decide)]
    · unfold found wayL sD
      rw [List.map_map]; rfl
    · intro g hg
      refine ⟨_, rfl, ?_, fun _ => rfl⟩
      have b := byW_ok p1 p2 g
      have e1 := sp_cturn h hc d g p p1 p2 r1 r2
      have e2 := sp_ceq h hc (d + 6) (byW turned g p) q b.1 b.2 q1 q2
      have e3 : decide (byW tc g (cl p) = cl q) = (decide (least (byW turned g p).1 = least q.1) && decide (least (byW turned g p).2 = least q.2)) := by
        rw [← cl_byW p1.pos p2.pos g]
        unfold cl
        by_cases a : least (byW turned g p).1 = least q.1 <;> simp [a]
      unfold clothD at e1 e2
      apply wp_eq
      simp -implicitDefEqProofs [clothD, hc.meth1, hc.mnm1, e1, hc.meth0, e2]
      rw [e3]
  rw [callN_def hc.f2 (d + 9) _ rfl]
  apply wp_eq
  simp -implicitDefEqProofs [P_ways_between, z, biR, R.seq?]
omit h
theorem sp_behind (d : Nat) (a b : Way) : callN 40 fds T0 (d + 2) 1 [.im (.str (wayS a)), .im (.str (wayS b))] = some (.ret (.im (.str (wayS (beh a b)))) [.im (.str (wayS a)), .im (.str (wayS b))]) := by
  have z : ∀ x y w n s0 s1 s3 s4 s5 s6 s7 s8, evP (tbN 40 fds T0 (d + 1)) (n + 5) (.lc [9] .keys [(.kd 0)] (some (.cmp .Eq (.kget 0 (.var 9)) (.var 2))) (.var 9)) [s0, s1, .im (.tup [.bl x, .bl y, .bl w]), s3, s4, s5, s6, s7, s8, .un] = some (.ow (.lst [.str (wayS (x, y, w))])) := by
    intro x y w n s0 s1 s3 s4 s5 s6 s7 s8
    rw [evP_lcM (l := ways8) (f := fun g => .str (wayS g)) (rs := [.im (.ref (T0.kd 0).1)]) (p := fun g => decide (g = (x, y, w))) (g := fun g => .str (wayS g)) (by apply wp_eq; simp) (by
        show some ((T0.kd 0).2.map fun p => D.str p.1) = _
        rw [ways_kd hc, List.map_map]; rfl) (by decide)]
    · rw [filter_way]; rfl
    · intro g hg
      refine ⟨_, rfl, ?_, fun _ => rfl⟩
      have := eqR_way g (x, y, w)
      apply wp_eq
      simp -implicitDefEqProofs [way_look hc]
      unfold wayD at this ⊢
      rw [this]
      simp
  rw [callN_def hc.f1 (d + 1) _ rfl]
  apply wp_eq
  obtain ⟨a1, a2, a3⟩ := a
  obtain ⟨b1, b2, b3⟩ := b
  cases a1 <;> cases a2 <;> cases a3 <;> cases b1 <;> cases b2 <;> cases b3 <;> simp -implicitDefEqProofs [P_behind, sp_way hc, way_look hc, wayD, hz, ixR, R.lsq?, beh, z]
end
end LW
/-! SC: what the laws' own draws come to. -/
namespace LW
open PySem PySem.Spec L2 DL WD
/-- the laws' own defs by their numbers -/
structure PQ (fds : Nat → Option FD) : Prop where
  f21 : fds 21 = some Q_pool
  f22 : fds 22 = some Q_take
  f23 : fds 23 = some Q_some_shades
  f24 : fds 24 = some Q_drawn_stripes
  f25 : fds 25 = some Q_threads
  f26 : fds 26 = some Q_word
  f27 : fds 27 = some Q_least_round
  f28 : fds 28 = some Q_due
theorem cdivp {n m : Int} (h0 : 0 < m) (h1 : m < 10000000000000000000000000000000000000000) : CDivP n m := by
  refine ⟨h0, ?_⟩
  unfold Builtin.divisionGoesByPylong
  have hl : m.natAbs.log2 < 200 := by
    rw [Nat.log2_lt (by omega)]
    have : m.natAbs < 10000000000000000000000000000000000000000 := by omega
    exact Nat.lt_of_lt_of_le this (by decide)
  have : ¬ ((if (m == 0) = true then 0 else m.natAbs.log2 / 30 + 1) > 300) := by
    split <;> omega
  simp only [Bool.and_eq_false_imp, decide_eq_true_eq]
  intro z
  exact absurd z this
theorem biR_abs (i : Int) : biR .abs [.im (.int i)] = some (.im (.int (if i < 0 then -i else i))) := (rfl)
theorem cdivw {n m : Int} (h0 : 0 < m) (h1 : m < 10000000000000000000000000000000000000000) : CDivW n m := by
  refine ⟨h0, ?_⟩
  have hl : m.natAbs.log2 < 200 := by
    rw [Nat.log2_lt (by omega)]
    have : m.natAbs < 10000000000000000000000000000000000000000 := by omega
    exact Nat.lt_of_lt_of_le this (by decide)
  omega
theorem binR_rep {ds : List D} {n : Int} : binR .Mult (.ow (.lst ds)) (.im (.int n)) = gd (0 ≤ n ∧ n < 2 ^ 31 ∧ ds.length * n.toNat ≤ sizeLine) (.ow (.lst (List.replicate n.toNat ds).flatten)) := (rfl)
theorem sD_rep (v : List Str) : ∀ q, (List.replicate q (sD v)).flatten = sD ((List.replicate q v).flatten)
  | 0 => rfl
  | q + 1 => by rw [List.replicate_succ, List.replicate_succ, List.flatten_cons, List.flatten_cons, sD_rep v q, sD_app]
/-- a pool of digits, lent -/
abbrev pl (n : Int) : Slot := .mu (.lst [.int n])
abbrev LET : Str := "abcdefghijklmnopqrstuvwxyz"
theorem wp_letter {i : Int} {Q : R → Prop} (h0 : 0 ≤ i) (h1 : i < 26) (h : ∀ c ∈ LET.cps.toList, Q (.im (.str ⟨#[c]⟩))) : Wp (ixR (.im (.str LET)) (.im (.int i))) Q := by
  have hl : LET.cps.toList.length = 26 := by decide +kernel
  have hz' : LET.length ≤ sizeLine := by decide +kernel
  obtain ⟨k, rfl⟩ := Int.eq_ofNat_of_zero_le h0
  have hk : k < LET.cps.toList.length := by omega
  refine ⟨.im (.str ⟨#[LET.cps.toList[k]]⟩), ?_, h _ (List.getElem_mem hk)⟩
  show (if LET.length ≤ sizeLine then (atI LET.cps.toList (k : Int)).map fun c => R.im (.str ⟨#[c]⟩) else none) = _
  rw [if_pos hz']
  unfold atI ixN
  rw [if_pos (by omega), if_pos (by omega)]
  simp [List.getElem?_eq_getElem hk]
def WRD : List Str := ["run", "row", "fold", "left", "warp", "weft", "none", "put"]
/-- behind k shades -/
def ShI (m : Int) (k : Nat) (Γ : List Slot) : Prop := ∃ n' found x4 x5 x6 x7 x8 x9, Γ = [pl n', .im (.int m), .im (.lst (sD WRD)), .ow (.lst (sD found)), x4, x5, x6, x7, x8, x9, .un, .un] ∧ Fr x4 ∧ Fr x5 ∧ Fr x6 ∧ Fr x7 ∧ Fr x8 ∧ Fr x9 ∧ found.length = k ∧ ∀ s ∈ found, Shd s
theorem inR_sD {ra : R} {s : Str} {w : List Str} (hr : ra.seq? = some (sD w)) (hn : ∀ z, ra ≠ .im (.str z)) : inR (.im (.str s)) ra = some (decide (s ∈ w)) := by
  have e : inR (.im (.str s)) ra = (((R.im (.str s)).lookD.bind pyD).bind fun p => (ra.seq?.bind pyDs).bind fun qs => gd (p.depth ≤ 60) (qs.any fun y => PyData.eqv y p)) := by
    unfold inR
    split
    · rename_i q; exact absurd rfl (hn _)
    · rfl
  rw [e, hr]
  simp only [lookD_im, Option.bind_some, pyD, pyDs_str]
  rw [gd_pos (by simp [PyData.depth])]
  congr 1
  rw [Bool.eq_iff_iff, decide_eq_true_iff, List.any_map, List.any_eq_true]
  constructor
  · rintro ⟨x, m, e⟩
    simp [PyData.eqv] at e
    rw [← e]; exact m
  · intro m
    exact ⟨s, m, by simp [PyData.eqv]⟩
theorem nodup_le {α : Type} [DecidableEq α] : ∀ {l m : List α}, l.Nodup → (∀ a ∈ l, a ∈ m) → l.length ≤ m.length
  | [], _, _, _ => Nat.zero_le _
  | a :: l, m, h, hs => by
    obtain ⟨h1, h2⟩ := List.nodup_cons.mp h
    have hm := hs a List.mem_cons_self
    have := nodup_le (l := l) (m := m.erase a) h2 fun b hb => (List.mem_erase_of_ne (fun e => by subst e; exact h1 hb)).mpr (hs b (List.mem_cons_of_mem _ hb))
    rw [List.length_erase_of_mem hm] at this
    have := List.length_pos_of_mem hm
    simp only [List.length_cons]
    omega
section
variable {fds : Nat → Option FD} {T0 : Tb}
theorem sp_take (h : PQ fds) (d : Nat) (n m : Int) (h0 : 0 < m) (h1 : m < 10000000000000000000000000000000000000000) : callN 40 fds T0 (d + 1) 22 [pl n, .im (.int m)] = some (.ret (.im (.int (n % m))) [pl (n / m), .im (.int m)]) := by
  rw [callN_def h.f22 d _ rfl]
  apply wp_eq
  simp -implicitDefEqProofs [Q_take, biR, ixR, R.lsq?, cdivp h0 h1, ixN]
theorem sp_pool (h : PQ fds) (d : Nat) (ns : List Int) (k : Nat) (hk : k < 1000) : Wp (callN 40 fds T0 (d + 1) 21 [.im (.klst (ns.map D.int)), .im (.int k)]) fun o => ∃ n, o = .ret (.ow (.lst [.int n])) [.im (.klst (ns.map D.int)), .im (.int k)] := by
  rw [callN_def h.f21 d _ rfl]
  have hc : ∃ c, biR .sum [.ow (.lst (cutD (ns.map D.int) (some (k : Int)) (some ((k : Int) + 1))))] = some (.im (.int c)) := by
    have e : cutD (ns.map D.int) (some (k : Int)) (some ((k : Int) + 1)) = ((ns.drop (HT.sIx ns.length 0 (some (k : Int)))).take (HT.sIx ns.length ns.length (some ((k : Int) + 1)) - HT.sIx ns.length 0 (some (k : Int)))).map D.int := by
      unfold cutD
      simp
    rw [e]
    exact ⟨((ns.drop (HT.sIx ns.length 0 (some (k : Int)))).take (HT.sIx ns.length ns.length (some ((k : Int) + 1)) - HT.sIx ns.length 0 (some (k : Int)))).sum, by simp only [biR, R.lst?, intsD_map]; rfl⟩
  obtain ⟨c, hc⟩ := hc
  have zb : ∀ n Γ, evP (tbN 40 fds T0 d) (n + 8) (.bin .Mult (.bin .Mult (.bin .Mult (.bin .Mult (.bin .Mult (.bin .Pow (.int 10) (.int 64)) (.bin .Pow (.int 10) (.int 64))) (.bin .Pow (.int 10) (.int 64))) (.bin .Pow (.int 10) (.int 64))) (.bin .Pow (.int 10) (.int 64))) (.bin .Pow (.int 10) (.int 64))) Γ = some (.im (.int (10 ^ 64 * 10 ^ 64 * 10 ^ 64 * 10 ^ 64 * 10 ^ 64 * 10 ^ 64))) := by
    intro n Γ
    have hp : binR .Pow (.im (.int 10)) (.im (.int 64)) = some (.im (.int (10 ^ 64))) := gd_pos (by unfold CPow; decide)
    have m1 : binR .Mult (.im (.int (10 ^ 64))) (.im (.int (10 ^ 64))) = some (.im (.int (10 ^ 64 * 10 ^ 64))) := gd_pos (.inr (by unfold CMulW; decide +kernel))
    have m2 : binR .Mult (.im (.int (10 ^ 64 * 10 ^ 64))) (.im (.int (10 ^ 64))) = some (.im (.int (10 ^ 64 * 10 ^ 64 * 10 ^ 64))) := gd_pos (.inr (by unfold CMulW; decide +kernel))
    have m3 : binR .Mult (.im (.int (10 ^ 64 * 10 ^ 64 * 10 ^ 64))) (.im (.int (10 ^ 64))) = some (.im (.int (10 ^ 64 * 10 ^ 64 * 10 ^ 64 * 10 ^ 64))) := gd_pos (.inr (by unfold CMulW; decide +kernel))
    have m4 : binR .Mult (.im (.int (10 ^ 64 * 10 ^ 64 * 10 ^ 64 * 10 ^ 64))) (.im (.int (10 ^ 64))) = some (.im (.int (10 ^ 64 * 10 ^ 64 * 10 ^ 64 * 10 ^ 64 * 10 ^ 64))) := gd_pos (.inr (by unfold CMulW; decide +kernel))
    have m5 : binR .Mult (.im (.int (10 ^ 64 * 10 ^ 64 * 10 ^ 64 * 10 ^ 64 * 10 ^ 64))) (.im (.int (10 ^ 64))) = some (.im (.int (10 ^ 64 * 10 ^ 64 * 10 ^ 64 * 10 ^ 64 * 10 ^ 64 * 10 ^ 64))) := gd_pos (.inr (by unfold CMulW; decide +kernel))
    simp only [evP_bin, evP_int, Option.bind_some, binK_eq, hp, m1, m2, m3, m4, m5]
  have mr : ∀ i j : Int, -1000000000000000000 < j → j < 1000000000000000000 → binR .Mult (.im (.int i)) (.im (.int j)) = some (.im (.int (i * j))) := fun i j h0 h1 => gd_pos (.inl (.inr ⟨by omega, by omega⟩))
  have ml : ∀ i j : Int, -1000000000000000000 < i → i < 1000000000000000000 → binR .Mult (.im (.int i)) (.im (.int j)) = some (.im (.int (i * j))) := fun i j h0 h1 => gd_pos (.inl (.inl ⟨by omega, by omega⟩))
  have mk1 : ∀ i : Int, binR .Mult (.im (.int i)) (.im (.int (k : Int))) = some (.im (.int (i * k))) := fun i => mr i k (by omega) (by omega)
  have m3 : ∀ i x : Int, binR .Mult (.im (.int i)) (.im (.int (x % 65537 + 3))) = some (.im (.int (i * (x % 65537 + 3)))) := fun i x => mr i _ (by omega) (by omega)
  simp -implicitDefEqProofs [Q_pool, slR, R.lsq?, hc, zb, biR_abs, hz, binR_mod, binR_pow, CPow, mr, ml, mk1, m3, itK, itR]
  intro _ _
  refine loopR_wp (I := fun _ Γ => ∃ x y z, Γ = [.im (.klst (ns.map D.int)), .im (.int (k : Int)), .im (.int c), .im (.int x), .im (.int y), z] ∧ Fr z) ⟨_, _, _, rfl, .un⟩ ?_ ?_
  · rintro i e Γ he ⟨x, y, z, rfl, hx⟩
    obtain ⟨_, rfl⟩ := range_get he
    rw [turnS_eq]
    simp -implicitDefEqProofs [stoK_fr hx, binR_mod, binR_pow, CPow, mr, ml, m3]
    exact ⟨_, _, _, ⟨rfl, rfl, rfl⟩, .im⟩
  · rintro Γ ⟨x, y, z, rfl, hx⟩
    simp -implicitDefEqProofs [hz]
/-- a word of small letters -/
def Lw (s : Str) : Prop := ∀ c ∈ s.cps.toList, c ∈ LET.cps.toList
theorem app_len (x y : Str) : (x ++ y).length = x.length + y.length := Array.size_append
theorem app_mem {x y : Str} {c : Nat} (m : c ∈ (x ++ y).cps.toList) : c ∈ x.cps.toList ∨ c ∈ y.cps.toList := by
  have e : (x ++ y).cps.toList = x.cps.toList ++ y.cps.toList := Array.toList_append
  rw [e] at m
  exact List.mem_append.mp m
theorem cutS_len (z : Str) (k : Nat) : (cutS z none (some (k : Int))).length = min k z.length := by
  show (((z.cps.toList.drop (HT.sIx z.length 0 none)).take (HT.sIx z.length z.length (some (k : Int)) - HT.sIx z.length 0 none)).toArray).size = _
  rw [HT.sIx_none, HT.sIx_nat, List.size_toArray, List.length_take, List.length_drop, Array.length_toList]
  show min (min k z.length - 0) (z.length - 0) = min k z.length
  omega
theorem cutS_mem {z : Str} {lo hi : Option Int} {c : Nat} (m : c ∈ (cutS z lo hi).cps.toList) : c ∈ z.cps.toList := by
  unfold cutS at m
  rw [List.toList_toArray] at m
  exact List.mem_of_mem_drop (List.mem_of_mem_take m)
theorem shd_two {x y : Str} (h1 : 1 ≤ x.length + y.length) (h2 : x.length + y.length ≤ 3) (hx : Lw x) (hy : Lw y) : Shd (x ++ y) :=
  ⟨by rw [app_len]; exact h1, by rw [app_len]; exact h2, fun c m => (app_mem m).elim (hx c) (hy c)⟩
theorem lw_one {c : Nat} (hc : c ∈ LET.cps.toList) : Lw ⟨#[c]⟩ := fun x m => by
  have : x = c := by simpa using m
  rw [this]; exact hc
theorem one_len (c : Nat) : (⟨#[c]⟩ : Str).length = 1 := rfl
theorem sh_tail (T : Tb) (n m : Int) (k : Nat) (w : Str) (found : List Str) (x4 x5 x6 x7 x8 : Slot) (f4 : Fr x4) (f5 : Fr x5) (f6 : Fr x6) (f7 : Fr x7) (f8 : Fr x8) (hl : found.length = k) (hf : ∀ s ∈ found, Shd s) (hw : Shd w) (hk : k < 20) :
    Wp (execs (exS T 40 39) [.set 6 (.p (.str "abcdefghijklmnopqrstuvwxyz")), .set 7 (.p (.bin .Add (.bin .Add (.lst [(.var 9)]) (.lc [10] .seq [(.var 6)] none (.bin .Add (.sl (.var 9) none (some (.int 1))) (.var 10)))) (.lc [10] .seq [(.var 6)] none (.bin .Add (.var 10) (.var 10))))), .app 3 (.p (.ix (.lc [11] .seq [(.var 7)] (some (.cmp .NotIn (.var 11) (.var 3))) (.var 11)) (.int 0)))]
      [pl n, .im (.int m), .im (.lst (sD WRD)), .ow (.lst (sD found)), x4, x5, x6, x7, x8, .im (.str w), .un, .un]) fun s => ∃ Γ', s = .nx Γ' ∧ ShI m (k + 1) Γ' := by
  have w1 := hw.lo
  have w2 := hw.hi
  have z1 : ∀ j y7, evP T (j + 5) (.lc [10] .seq [(.var 6)] none (.bin .Add (.sl (.var 9) none (some (.int 1))) (.var 10))) [pl n, .im (.int m), .im (.lst (sD WRD)), .ow (.lst (sD found)), x4, x5, .im (.str LET), y7, x8, .im (.str w), .un, .un] = some (.ow (.lst (sD (LET.cps.toList.map fun c => cutS w none (some 1) ++ ⟨#[c]⟩)))) := by
    intro j y7
    rw [evP_lcS (r := .im (.str LET)) (ds := LET.cps.toList.map fun c => D.str ⟨#[c]⟩) (g := fun d => match d with | .str c => .str (cutS w none (some 1) ++ c) | _ => .non) (by simp) rfl (by decide +kernel) (by simp) fun x hx => ?_]
    · unfold sD
      rw [List.map_map, List.map_map]; rfl
    · obtain ⟨c, hc, rfl⟩ := List.mem_map.mp hx
      have := cutS_length w none (some 1)
      have e1 : (⟨#[c]⟩ : Str).length = 1 := rfl
      apply wp_eq
      simp -implicitDefEqProofs [slR, binR_str, hz, e1]
      omega
  have z2 : ∀ j y7, evP T (j + 5) (.lc [10] .seq [(.var 6)] none (.bin .Add (.var 10) (.var 10))) [pl n, .im (.int m), .im (.lst (sD WRD)), .ow (.lst (sD found)), x4, x5, .im (.str LET), y7, x8, .im (.str w), .un, .un] = some (.ow (.lst (sD (LET.cps.toList.map fun c => (⟨#[c]⟩ : Str) ++ ⟨#[c]⟩)))) := by
    intro j y7
    rw [evP_lcS (r := .im (.str LET)) (ds := LET.cps.toList.map fun c => D.str ⟨#[c]⟩) (g := fun d => match d with | .str c => .str (c ++ c) | _ => .non) (by simp) rfl (by decide +kernel) (by simp) fun x hx => ?_]
    · unfold sD
      rw [List.map_map, List.map_map]; rfl
    · obtain ⟨c, hc, rfl⟩ := List.mem_map.mp hx
      have e1 : (⟨#[c]⟩ : Str).length = 1 := rfl
      apply wp_eq
      simp -implicitDefEqProofs [slR, binR_str, hz, e1]
  have lL : LET.cps.toList.length = 26 := by decide +kernel
  -- the words to choose from
  generalize hS : ([w] ++ (LET.cps.toList.map fun c => cutS w none (some 1) ++ ⟨#[c]⟩) ++ (LET.cps.toList.map fun c => (⟨#[c]⟩ : Str) ++ ⟨#[c]⟩)) = S
  have hS1 : ∀ s ∈ S, Shd s := by
    subst hS
    intro s hs
    rcases List.mem_append.mp hs with hs | hs
    · rcases List.mem_append.mp hs with hs | hs
      · rw [List.mem_singleton] at hs; subst hs; exact hw
      · obtain ⟨c, hc, rfl⟩ := List.mem_map.mp hs
        have e := cutS_len w 1
        exact shd_two (by rw [show cutS w none (some 1) = cutS w none (some ((1 : Nat) : Int)) from rfl, e, one_len]; omega) (by rw [show cutS w none (some 1) = cutS w none (some ((1 : Nat) : Int)) from rfl, e, one_len]; omega) (fun x hx => hw.al x (cutS_mem hx)) (lw_one hc)
    · obtain ⟨c, hc, rfl⟩ := List.mem_map.mp hs
      exact shd_two (by rw [one_len]; omega) (by rw [one_len]; omega) (lw_one hc) (lw_one hc)
  have hS2 : ∃ s ∈ S, s ∉ found := by
    false_or_by_contra
    rename_i hno
    have hall : ∀ s ∈ (LET.cps.toList.map fun c => (⟨#[c]⟩ : Str) ++ ⟨#[c]⟩), s ∈ found := by
      intro s hs
      false_or_by_contra
      rename_i q
      exact hno ⟨s, by subst hS; exact List.mem_append_right _ hs, q⟩
    have nd : (LET.cps.toList.map fun c => (⟨#[c]⟩ : Str) ++ ⟨#[c]⟩).Nodup := by decide +kernel
    have := nodup_le nd hall
    rw [List.length_map] at this
    omega
  have hSl : S.length ≤ 60 := by subst hS; rw [List.length_append, List.length_append, List.length_map, List.length_map, lL]; show 1 + 26 + 26 ≤ 60; omega
  have z3 : ∀ j y4 y5 y6 y8 y9, evP T (j + 5) (.lc [11] .seq [(.var 7)] (some (.cmp .NotIn (.var 11) (.var 3))) (.var 11)) [pl n, .im (.int m), .im (.lst (sD WRD)), .ow (.lst (sD found)), y4, y5, y6, .im (.lst (sD S)), y8, y9, .un, .un] = some (.ow (.lst (sD (S.filter fun s => !decide (s ∈ found))))) := by
    intro j y4 y5 y6 y8 y9
    rw [evP_lcM (l := S) (f := D.str) (rs := [.im (.lst (sD S))]) (p := fun s => !decide (s ∈ found)) (g := D.str) (by apply wp_eq; simp) rfl (by rw [hz]; omega)]
    · rfl
    · intro s hs
      refine ⟨_, rfl, ?_, fun _ => rfl⟩
      have hi := inR_sD (ra := .vo (.lst (sD found))) (s := s) (w := found) rfl (fun z q => by cases q)
      apply wp_eq
      simp -implicitDefEqProofs [cmpR, hi]
  have hne : (S.filter fun s => !decide (s ∈ found)) ≠ [] := by
    obtain ⟨s, h1, h2⟩ := hS2
    exact List.ne_nil_of_mem (List.mem_filter.mpr ⟨h1, by simpa using h2⟩)
  obtain ⟨s0, rest, hs0⟩ := List.exists_cons_of_ne_nil hne
  have hs0m : s0 ∈ S := (List.mem_filter.mp (by rw [hs0]; exact List.mem_cons_self)).1
  have hS' : D.str w :: (sD (LET.cps.toList.map fun c => cutS w none (some 1) ++ ⟨#[c]⟩) ++ sD (LET.cps.toList.map fun c => (⟨#[c]⟩ : Str) ++ ⟨#[c]⟩)) = sD S := by
    subst hS; simp [sD]
  have lL' : LET.cps.size = 26 := by decide +kernel
  have a0 : atI (sD (s0 :: rest)) 0 = some (.str s0) := atI_0 _ _
  have hll : found.length < 16777216 := by omega
  simp -implicitDefEqProofs [stoK_fr f6, stoK_fr f7, z1, z2, catR, R.lst?, hz, lL', binR, hS', z3, ixR, R.lsq?, hs0, a0, hll]
  rw [show sD found ++ [D.str s0] = sD (found ++ [s0]) by simp [sD]]
  refine ⟨n, found ++ [s0], x4, x5, _, _, x8, _, rfl, f4, f5, .im, .im, f8, .im, by simp [hl], ?_⟩
  intro s hs
  rcases List.mem_append.mp hs with hs | hs
  · exact hf s hs
  · rw [List.mem_singleton] at hs; subst hs; exact hS1 _ hs0m
theorem wrd_ok : ∀ s ∈ WRD, 1 ≤ s.length ∧ s.length ≤ 4 ∧ ∀ c ∈ s.cps.toList, c ∈ LET.cps.toList := by decide +kernel
theorem wrd_shd {s : Str} (hs : s ∈ WRD) : Shd (cutS s none (some 3)) := by
  obtain ⟨h1, h2, h3⟩ := wrd_ok s hs
  have e := cutS_len s 3
  exact ⟨by rw [show cutS s none (some 3) = cutS s none (some ((3 : Nat) : Int)) from rfl, e]; omega, by rw [show cutS s none (some 3) = cutS s none (some ((3 : Nat) : Int)) from rfl, e]; omega, fun c m => h3 c (cutS_mem m)⟩
/-- a word so far -/
def WdI (m : Int) (found : List Str) (k : Nat) (r : Int) (x6 x7 : Slot) (j : Nat) (Γ : List Slot) : Prop := ∃ n w x5, Γ = [pl n, .im (.int m), .im (.lst (sD WRD)), .ow (.lst (sD found)), .im (.int (k : Int)), x5, x6, x7, .im (.int r), .im (.str w), .un, .un] ∧ Fr x5 ∧ w.length = j ∧ Lw w
theorem sp_shades (h : PQ fds) (d : Nat) (n m : Int) (h1 : 1 ≤ m) (h2 : m ≤ 20) : Wp (callN 40 fds T0 (d + 2) 23 [pl n, .im (.int m)]) fun o => ∃ n' sh, o = .ret (.ow (.lst (sD sh))) [pl n', .im (.int m)] ∧ (sh.length : Int) = m ∧ ∀ s ∈ sh, Shd s := by
  rw [callN_def h.f23 (d + 1) _ rfl]
  simp -implicitDefEqProofs [Q_some_shades, hz, itK, itR]
  refine ⟨by omega, ?_⟩
  refine loopR_wp (I := ShI m) ⟨n, [], .un, .un, .un, .un, .un, .un, rfl, .un, .un, .un, .un, .un, .un, rfl, by simp⟩ ?_ ?_
  · rintro k e Γ he ⟨n', found, x4, x5, x6, x7, x8, x9, rfl, f4, f5, f6, f7, f8, f9, hl, hf⟩
    obtain ⟨hk, rfl⟩ := range_get he
    have hr0 := Int.emod_nonneg n' (show (3 : Int) ≠ 0 by decide)
    have hr1 := Int.emod_lt_of_pos n' (show (0 : Int) < 3 by decide)
    rw [turnS_eq]
    simp -implicitDefEqProofs [stoK_fr f4, stoK_fr f5, stoK_fr f6, stoK_fr f7, stoK_fr f8, stoK_fr f9, sp_take h, hz, once, itK, itR]
    refine ⟨by omega, ?_⟩
    refine loopR_wp (I := WdI m found k (1 + n' % 3) x6 x7) ⟨_, _, _, rfl, f5, rfl, fun c m => by cases m⟩ ?_ ?_
    · rintro j e Γ he ⟨n2, w, y5, rfl, g5, hwl, hw⟩
      obtain ⟨hj, rfl⟩ := range_get he
      rw [turnS_eq]
      simp -implicitDefEqProofs [stoK_fr g5, sp_take h, once]
      refine wp_letter (Int.emod_nonneg _ (by decide)) (Int.emod_lt_of_pos _ (by decide)) fun c hc => ?_
      simp -implicitDefEqProofs [binR_str, hz, one_len]
      refine ⟨by omega, _, _, _, rfl, .im, by rw [app_len, hwl]; rfl, fun x hx => (app_mem hx).elim (hw x) (lw_one hc x)⟩
    · rintro Γ ⟨n2, w, y5, rfl, g5, hwl, hw⟩
      rw [List.length_map, List.length_range] at hwl
      have hkm : k < 20 := by omega
      have hs : Shd w := ⟨by omega, by omega, hw⟩
      have tail : ∀ n3 w, Shd w → Wp (execs (exS (tbN 40 fds T0 (d + 1)) 40 39) [.set 6 (.p (.str "abcdefghijklmnopqrstuvwxyz")), .set 7 (.p (.bin .Add (.bin .Add (.lst [(.var 9)]) (.lc [10] .seq [(.var 6)] none (.bin .Add (.sl (.var 9) none (some (.int 1))) (.var 10)))) (.lc [10] .seq [(.var 6)] none (.bin .Add (.var 10) (.var 10))))), .app 3 (.p (.ix (.lc [11] .seq [(.var 7)] (some (.cmp .NotIn (.var 11) (.var 3))) (.var 11)) (.int 0)))]
          [pl n3, .im (.int m), .im (.lst (sD WRD)), .ow (.lst (sD found)), .im (.int (k : Int)), y5, x6, x7, .im (.int (1 + n' % 3)), .im (.str w), .un, .un])
          (TurnQ (ShI m (k + 1)) (WpK (thenK (DL.execs (exS (tbN 40 fds T0 (d + 1)) 40 40) [.retO 3])) (WpK (finO 2) fun o => ∃ n' sh, o = .ret (.ow (.lst (sD sh))) [pl n', .im (.int m)] ∧ (sh.length : Int) = m ∧ ∀ s ∈ sh, Shd s))) :=
        fun n3 w hw => (sh_tail _ n3 m k w found _ _ _ _ _ .im g5 f6 f7 .im hl hf hw hkm).imp fun s ⟨Γ', e, z⟩ => by subst e; exact z
      have X : Wp (exS (tbN 40 fds T0 (d + 1)) 40 39 (.iff (.cmp .Eq (.call 22 [(.bor 0), (.p (.int 8))]) (.p (.int 7))) [.set 9 (.sl (.ix (.p (.var 2)) (.call 22 [(.bor 0), (.p (.int 8))])) none (some (.int 3)))] [])
          [pl n2, .im (.int m), .im (.lst (sD WRD)), .ow (.lst (sD found)), .im (.int (k : Int)), y5, x6, x7, .im (.int (1 + n' % 3)), .im (.str w), .un, .un])
          fun s => ∃ n3 w, s = .nx [pl n3, .im (.int m), .im (.lst (sD WRD)), .ow (.lst (sD found)), .im (.int (k : Int)), y5, x6, x7, .im (.int (1 + n' % 3)), .im (.str w), .un, .un] ∧ Shd w := by
        have q0 := Int.emod_nonneg (n2 / 8) (show (8 : Int) ≠ 0 by decide)
        have q1 := Int.emod_lt_of_pos (n2 / 8) (show (0 : Int) < 8 by decide)
        have hat := at_thr (w := WRD) q0 q1
        have hmem := thr_mem (w := WRD) (by decide) (n2 / 8 % 8)
        have hlen := (wrd_ok _ hmem).2.1
        simp -implicitDefEqProofs [sp_take h, once, ixR, R.lsq?, hat, slR, hz]
        exact ⟨fun _ => ⟨fun _ => ⟨_, _, ⟨rfl, rfl⟩, wrd_shd hmem⟩, by omega⟩, fun _ => ⟨_, _, ⟨rfl, rfl⟩, hs⟩⟩
      show Wp (SR.seq (exS (tbN 40 fds T0 (d + 1)) 40 39 _ _) (execs _ _)) _
      rw [Wp_seq]
      exact X.imp fun s ⟨n3, w', e, hw'⟩ => by subst e; exact tail n3 w' hw'
  · rintro Γ ⟨n', found, x4, x5, x6, x7, x8, x9, rfl, f4, f5, f6, f7, f8, f9, hl, hf⟩
    rw [List.length_map, List.length_range] at hl
    simp -implicitDefEqProofs
    exact ⟨n', found, ⟨rfl, rfl⟩, by omega, hf⟩
/-- some stripes drawn -/
def StI (sh : List Str) (mo wi : Int) (k : Nat) (Γ : List Slot) : Prop := ∃ n st x5, Γ = [pl n, .im (.lst (sD sh)), .im (.int mo), .im (.int wi), .ow (.lst (stD st)), x5] ∧ Fr x5 ∧ st.length = k ∧ ∀ p ∈ st, p.1 ∈ sh ∧ 1 ≤ p.2 ∧ (p.2 : Int) ≤ wi
theorem sp_draws (h : PQ fds) (d : Nat) (n mo wi : Int) (sh : List Str) (hs : 0 < sh.length) (hl : sh.length ≤ 20) (h1 : 1 ≤ mo) (h2 : mo ≤ 20) (h3 : 1 ≤ wi) (h4 : wi ≤ 20) : Wp (callN 40 fds T0 (d + 2) 24 [pl n, .im (.lst (sD sh)), .im (.int mo), .im (.int wi)]) fun o => ∃ n' st, o = .ret (.im (.tup (stD st))) [pl n', .im (.lst (sD sh)), .im (.int mo), .im (.int wi)] ∧ st ≠ [] ∧ (st.length : Int) ≤ mo ∧ ∀ p ∈ st, p.1 ∈ sh ∧ 1 ≤ p.2 ∧ (p.2 : Int) ≤ wi := by
  have hr0 := Int.emod_nonneg n (show mo ≠ 0 by omega)
  have hr1 := Int.emod_lt_of_pos n (show (0 : Int) < mo by omega)
  have tm := fun n => sp_take (T0 := T0) h d n mo (by omega) (by omega)
  have tw := fun n => sp_take (T0 := T0) h d n wi (by omega) (by omega)
  have ts := fun n => sp_take (T0 := T0) h d n (sh.length : Int) (by omega) (by omega)
  rw [callN_def h.f24 (d + 1) _ rfl]
  simp -implicitDefEqProofs [Q_drawn_stripes, hz, itR, tm, once]
  refine ⟨by omega, ?_⟩
  refine loopR_wp (I := StI sh mo wi) ⟨_, [], _, rfl, .un, rfl, by simp⟩ ?_ ?_
  · rintro k e Γ he ⟨n2, st, x5, rfl, f5, hk, hst⟩
    obtain ⟨hk2, rfl⟩ := range_get he
    have q0 := Int.emod_nonneg n2 (show (sh.length : Int) ≠ 0 by omega)
    have q1 := Int.emod_lt_of_pos n2 (show (0 : Int) < (sh.length : Int) by omega)
    have hat := at_thr (w := sh) q0 q1
    have hmem := thr_mem hs n2
    have w0 := Int.emod_nonneg (n2 / (sh.length : Int)) (show wi ≠ 0 by omega)
    have w1 := Int.emod_lt_of_pos (n2 / (sh.length : Int)) (show (0 : Int) < wi by omega)
    rw [thr_mod] at hat
    rw [turnS_eq]
    simp -implicitDefEqProofs [stoK_fr f5, once, tw, ts, biR, R.seq?, ixR, R.lsq?, hat, hz]
    refine ⟨by omega, ?_⟩
    obtain ⟨c, hc⟩ := Int.eq_ofNat_of_zero_le (show 0 ≤ 1 + n2 / (sh.length : Int) % wi by omega)
    rw [hc]
    refine ⟨_, st ++ [(thr sh n2, c)], _, by rw [stD_app]; rfl, .im, by simp [hk], ?_⟩
    intro p hp
    rcases List.mem_append.mp hp with hp | hp
    · exact hst p hp
    · rw [List.mem_singleton] at hp
      subst hp
      exact ⟨hmem, by show 1 ≤ c; omega, by show (c : Int) ≤ wi; omega⟩
  · rintro Γ ⟨n2, st, x5, rfl, f5, hk, hst⟩
    rw [List.length_map, List.length_range] at hk
    simp -implicitDefEqProofs [biR, R.seq?]
    refine ⟨_, st, ⟨rfl, rfl⟩, fun z => ?_, by omega, fun a b m => hst (a, b) m⟩
    subst z
    simp at hk
    omega
@[simp] theorem ne_pivot_run : ¬ Str.ofString "pivot" = Str.ofString "run" := by decide +kernel
@[simp] theorem ne_fold_run : ¬ Str.ofString "fold" = Str.ofString "run" := by decide +kernel
@[simp] theorem ne_fold_pivot : ¬ Str.ofString "fold" = Str.ofString "pivot" := by decide +kernel
@[simp] theorem ne_left_run : ¬ Str.ofString "left" = Str.ofString "run" := by decide +kernel
@[simp] theorem ne_left_pivot : ¬ Str.ofString "left" = Str.ofString "pivot" := by decide +kernel
@[simp] theorem ne_left_fold : ¬ Str.ofString "left" = Str.ofString "fold" := by decide +kernel
@[simp] theorem ne_right_run : ¬ Str.ofString "right" = Str.ofString "run" := by decide +kernel
@[simp] theorem ne_right_pivot : ¬ Str.ofString "right" = Str.ofString "pivot" := by decide +kernel
@[simp] theorem ne_right_fold : ¬ Str.ofString "right" = Str.ofString "fold" := by decide +kernel
@[simp] theorem ne_right_left : ¬ Str.ofString "right" = Str.ofString "left" := by decide +kernel
/-- a law's own word of a manner -/
def manL (j : Nat) (w : List Str) : List Str := if w.length = 1 then w else manF j w
theorem sp_lthreads (h : PQ fds) (d : Nat) (st : List (Str × Nat)) (hs : StOk st) : callN 40 fds T0 (d + 1) 25 [.im (.tup (stD st))] = some (.ret (.ow (.lst (sD (expand st)))) [.im (.tup (stD st))]) := by
  rw [callN_def h.f25 d _ rfl]
  apply wp_eq
  have hle := hs.le
  simp -implicitDefEqProofs [Q_threads, hz, itK, itR]
  refine loopR_wp (I := fun k Γ => ∃ x y, Γ = [.im (.tup (stD st)), .ow (.lst (sD (expand (st.take k)))), x, y] ∧ Fr x ∧ Fr y) ⟨.un, .un, rfl, .un, .un⟩ ?_ ?_
  · rintro k e Γ he ⟨x, y, rfl, hx, hy⟩
    obtain ⟨p, hp, rfl, hm⟩ := stD_get he
    have hq := hs.sh p hm
    have hmt := many_take hp
    have hml := many_le (st := st) (k + 1)
    simp -implicitDefEqProofs [turnS_eq, stoK_fr hx, stoK_fr hy, hz, binR, repR, R.lst?, expand_length]
    exact ⟨⟨by omega, by omega⟩, by omega, _, _, ⟨by rw [expand_take hp]; simp [sD], rfl, rfl⟩, .im, .im⟩
  · rintro Γ ⟨x, y, rfl, hx, hy⟩
    simp -implicitDefEqProofs [biR, R.seq?]
theorem sp_lword (h : PQ fds) (d j : Nat) (hj : j = 11 ∨ j = 12 ∨ j = 13 ∨ j = 14 ∨ j = 15) (w : List Str) (hw : w.length ≤ 240) : Wp (callN 40 fds T0 (d + 1) 26 [.im (.lst (sD w)), .im (.str (manS j))]) fun o => ∃ r, o = .ret r [.im (.lst (sD w)), .im (.str (manS j))] ∧ r.toD = some (.lst (sD (manL j w))) := by
  have l1 := cutW_le w (some 1) (some (-1))
  have l2 := cutW_le w (some 1) none
  have l3 := cutW_le w none (some (-1))
  rw [callN_def h.f26 d _ rfl]
  by_cases h1 : w.length = 1
  · simp -implicitDefEqProofs [Q_word, biR, R.seq?, h1, manL]
  · have hi : ¬ (w.length : Int) = 1 := by omega
    rcases hj with rfl | rfl | rfl | rfl | rfl
    · simp -implicitDefEqProofs [Q_word, biR, R.seq?, h1, manL, manF, manS]
    all_goals
      simp -implicitDefEqProofs [Q_word, biR, R.seq?, R.lsq?, R.lst?, h1, hi, manL, manF, manS, slR, revR, cutD_sD, binR, catR, hz, sD_app, sD_rev]
      try omega
theorem root_man {j : Nat} {w : List Str} (hw : 0 < w.length) (b : Int) : root (manL j w) b = root (manF j w) b := by
  unfold manL
  by_cases h1 : w.length = 1
  · rw [if_pos h1]
    have hl := manF_length j w
    obtain ⟨a, rfl⟩ := List.length_eq_one_iff.mp h1
    have ha : ∀ v : List Str, 0 < v.length → (∀ s ∈ v, s = a) → root v b = [a] := by
      intro v hv hs
      have ht : ∀ i, thr v i = a := fun i => hs _ (thr_mem hv i)
      obtain ⟨r1, _, _, r4⟩ := lrnd_spec hv
      have hr : lrnd v = 1 := by
        have := r4 1 (by decide) ⟨v.length, by omega⟩ (fun i => by rw [ht, ht])
        omega
      unfold root
      rw [hr]
      show [thr v _] = _
      rw [ht]
    rw [ha [a] (by simp) (by simp), ha (manF j [a]) (by simp at hl; omega) (fun s m => by simpa using manF_mem m)]
  · rw [if_neg h1]
theorem sp_lround (h : PQ fds) (d : Nat) (w : List Str) (hn : 0 < w.length) (hw : w.length ≤ 480) : callN 40 fds T0 (d + 1) 27 [.im (.lst (sD w))] = some (.ret (.im (.int (lrnd w : Nat))) [.im (.lst (sD w))]) := by
  rw [callN_def h.f27 d _ rfl]
  apply wp_eq
  simp -implicitDefEqProofs [Q_least_round, biR, R.seq?, itK, itR]
  refine ⟨by omega, ?_⟩
  refine loopR_wp (I := fun k Γ => ∃ x, Γ = [.im (.lst (sD w)), x] ∧ Fr x ∧ ∀ d, 1 ≤ d → d ≤ k → isRnd w d = false) ⟨.un, rfl, .un, fun _ _ _ => by omega⟩ ?_ ?_
  · rintro k e Γ he ⟨x, rfl, hx, hk⟩
    obtain ⟨ha, rfl⟩ := range_get he
    have c2 : cutD (sD w) none (some (1 + (k : Int))) = sD (w.take (k + 1)) := by
      rw [cut_take (by omega) (by simp; omega)]
      have : (1 + (k : Int)).toNat = k + 1 := by omega
      rw [this]; simp [sD]
    have hm : ((w.length : Int) % (1 + (k : Int)) = 0) ↔ w.length % (k + 1) = 0 := by
      have : (1 + (k : Int)) = ((k + 1 : Nat) : Int) := by omega
      rw [this, ← Int.natCast_emod]
      omega
    have hdv : (w.length : Int) / (1 + (k : Int)) = ((w.length / (k + 1) : Nat) : Int) := by
      have : (1 + (k : Int)) = ((k + 1 : Nat) : Int) := by omega
      rw [this, Int.natCast_ediv]
    have hr := rep_iff (w := w) (d := k + 1) (by omega) hn
    have go : isRnd w (k + 1) = false → ∃ x, [Slot.im (.lst (sD w)), .im (.int (1 + (k : Int)))] = [.im (.lst (sD w)), x] ∧ Fr x ∧ ∀ d, 1 ≤ d → d ≤ k + 1 → isRnd w d = false := fun q =>
      ⟨_, rfl, .im, fun d h1 h2 => by
        rcases Nat.lt_or_ge k d with z | z
        · obtain rfl : d = k + 1 := by omega
          exact q
        · exact hk d h1 z⟩
    rw [turnS_eq]
    have cd : CDivW (w.length : Int) (1 + (k : Int)) := cdivw (by omega) (by omega)
    have hq : w.length / (k + 1) ≤ w.length := Nat.div_le_self _ _
    have hq2 : (w.take (k + 1)).length * (w.length / (k + 1)) ≤ w.length := by
      rw [List.length_take, Nat.min_eq_left (by omega)]
      exact Nat.mul_div_le _ _
    have heq : eqR (.ow (.lst (sD ((List.replicate (w.length / (k + 1)) (w.take (k + 1))).flatten)))) (.im (.lst (sD w))) = some (decide ((List.replicate (w.length / (k + 1)) (w.take (k + 1))).flatten = w)) := eqR_lD _ _ rfl rfl
    have hro : isRnd w (k + 1) = (decide (w.length % (k + 1) = 0) && PerB w (k + 1)) := rfl
    have hrep : binR .Mult (.ow (.lst (sD (w.take (k + 1))))) (.im (.int ((w.length / (k + 1) : Nat) : Int))) = some (.ow (.lst (sD ((List.replicate (w.length / (k + 1)) (w.take (k + 1))).flatten)))) := by
      rw [binR_rep]
      have : ((w.length / (k + 1) : Nat) : Int).toNat = w.length / (k + 1) := Int.toNat_natCast _
      rw [this, gd_pos ⟨by omega, by omega, by rw [sD_length, hz]; omega⟩, sD_rep]
    rw [Int.natCast_ediv] at hdv hrep
    simp -implicitDefEqProofs [stoK_fr hx, binR_mod, slR, R.lsq?, c2, hm, biR, R.seq?, binR_div, cd]
    rw [hdv, ← Int.natCast_ediv] at *
    have hfin : isRnd w (k + 1) = false → Fr (Slot.im (.int (1 + (k : Int)))) ∧ ∀ d, 1 ≤ d → d ≤ k + 1 → isRnd w d = false := fun q => by
      obtain ⟨x, e, f, g⟩ := go q
      exact ⟨.im, g⟩
    refine ⟨by omega, fun q1 => ?_, fun q1 => hfin (by rw [hro]; simp [q1])⟩
    rw [hrep]
    simp -implicitDefEqProofs [heq]
    refine ⟨fun q2 => ?_, fun q2 => hfin ?_⟩
    · rw [lrnd_first hk (by rw [hro, (hr q1).mp q2]; simp [q1]) (by omega)]
      omega
    · rw [hro]
      cases z : PerB w (k + 1) with
      | false => simp
      | true => exact absurd ((hr q1).mpr z) q2
  · rintro Γ ⟨x, rfl, hx, hk⟩
    rw [List.length_map, List.length_range] at hk
    simp -implicitDefEqProofs [lrnd_none hk, biR, R.seq?]
theorem sp_due (h : PQ fds) (d j : Nat) (hj : j = 11 ∨ j = 12 ∨ j = 13 ∨ j = 14 ∨ j = 15) (st : List (Str × Nat)) (hs : StOk st) (b : Int) : callN 40 fds T0 (d + 2) 28 [.im (.tup (stD st)), .im (.str (manS j)), .im (.int b)] = some (.ret (.ow (.lst (sD (root (manF j (expand st)) b)))) [.im (.tup (stD st)), .im (.str (manS j)), .im (.int b)]) := by
  have hw := hs.w
  have hpos := hw.pos
  have hle := hw.le
  have hl := manF_length j (expand st)
  have hn : 0 < (manL j (expand st)).length := by unfold manL; split <;> omega
  have hn2 : (manL j (expand st)).length ≤ 480 := by unfold manL; split <;> omega
  obtain ⟨_, e1, r', rfl, e3⟩ := sp_lword (T0 := T0) h d j hj (expand st) hle
  have e0 := sp_lthreads (T0 := T0) h d st hs
  have er := sp_lround (T0 := T0) h d (manL j (expand st)) hn hn2
  have z : ∀ n, evP (tbN 40 fds T0 (d + 1)) (n + 5) (.lc [5] .range1 [(.var 4)] none (.ix (.var 3) (.bin .Mod (.bin .Add (.var 5) (.var 2)) (.bi .len [(.var 3)]))))
      [.im (.tup (stD st)), .im (.str (manS j)), .im (.int b), .im (.lst (sD (manL j (expand st)))), .im (.int (lrnd (manL j (expand st)) : Nat)), .un] = some (.ow (.lst (sD (root (manF j (expand st)) b)))) := by
    intro n
    rw [evP_lcR (m := lrnd (manL j (expand st))) (g := fun k => .str (thr (manL j (expand st)) ((k : Int) + b))) (by apply wp_eq; simp) (by have := lrnd_le hn; rw [hz]; omega) (by simp)]
    · rw [← root_man hpos]
      unfold root mk sD
      rw [List.map_map]; rfl
    · intro k hk
      have f1 := Int.emod_nonneg ((k : Int) + b) (show ((manL j (expand st)).length : Int) ≠ 0 by omega)
      have f2 := Int.emod_lt_of_pos ((k : Int) + b) (show (0 : Int) < ((manL j (expand st)).length : Int) by omega)
      apply wp_eq
      simp -implicitDefEqProofs [binR_mod, ixR, R.lsq?, biR, R.seq?, at_thr f1 f2, thr_mod, hn]
  rw [callN_def h.f28 (d + 1) _ rfl]
  apply wp_eq
  simp -implicitDefEqProofs [Q_due, e0, e1, e3, er, z]
end
end LW
/-! SD: the defs of k37. -/
namespace LW
open PySem PySem.Spec L2 DL WD
structure PK (fds : Nat → Option FD) : Prop where
  f29 : fds 29 = some Q_drawn_row
  f30 : fds 30 = some Q_made
  f31 : fds 31 = some Q_least
  f32 : fds 32 = some Q_turned
  f33 : fds 33 = some Q_by_way
  f34 : fds 34 = some Q_ways
  f35 : fds 35 = some Q_moved
  f36 : fds 36 = some Q_ways_due
  f37 : fds 37 = some Q_cloth
  f38 : fds 38 = some Q_parts
  f39 : fds 39 = some Q_others
  f40 : fds 40 = some Q_own_right
  f41 : fds 41 = some Q_closed
  f42 : fds 42 = some Q_right
  f43 : fds 43 = some Q_main
def MN : List Str := ["run", "run", "pivot", "fold", "left", "right"]
theorem mn_man {s : Str} (hs : s ∈ MN) : ∃ j, (j = 11 ∨ j = 12 ∨ j = 13 ∨ j = 14 ∨ j = 15) ∧ s = manS j := by
  simp only [MN, List.mem_cons, List.not_mem_nil, or_false] at hs
  rcases hs with rfl | rfl | rfl | rfl | rfl | rfl
  · exact ⟨11, .inl rfl, rfl⟩
  · exact ⟨11, .inl rfl, rfl⟩
  · exact ⟨12, .inr (.inl rfl), rfl⟩
  · exact ⟨13, .inr (.inr (.inl rfl)), rfl⟩
  · exact ⟨14, .inr (.inr (.inr (.inl rfl))), rfl⟩
  · exact ⟨15, .inr (.inr (.inr (.inr rfl))), rfl⟩
def repL (q : Nat) (st : List (Str × Nat)) : List (Str × Nat) := (List.replicate q st).flatten
theorem stD_rep (st : List (Str × Nat)) : ∀ q, (List.replicate q (stD st)).flatten = stD (repL q st)
  | 0 => rfl
  | q + 1 => by
    unfold repL
    rw [List.replicate_succ, List.replicate_succ, List.flatten_cons, List.flatten_cons, stD_rep st q, stD_app]; rfl
theorem many_rep (st : List (Str × Nat)) : ∀ q, many (repL q st) = q * many st
  | 0 => by simp [repL, many]
  | q + 1 => by
    have := many_rep st q
    unfold repL at this ⊢
    rw [List.replicate_succ, List.flatten_cons, many_app, this, Nat.succ_mul, Nat.add_comm]
theorem mem_rep {st : List (Str × Nat)} {p : Str × Nat} : ∀ {q}, p ∈ repL q st → p ∈ st
  | 0, h => by simp [repL] at h
  | q + 1, h => by
    unfold repL at h
    rw [List.replicate_succ, List.flatten_cons] at h
    rcases List.mem_append.mp h with h | h
    · exact h
    · exact mem_rep (q := q) h
theorem many_bound {wi : Int} (hw : 0 ≤ wi) : ∀ {st : List (Str × Nat)}, (∀ p ∈ st, (p.2 : Int) ≤ wi) → (many st : Int) ≤ st.length * wi
  | [], _ => by simp [many]
  | p :: st, h => by
    have h1 := many_bound hw (st := st) fun q m => h q (List.mem_cons_of_mem _ m)
    have h2 := h p List.mem_cons_self
    simp only [many, List.length_cons, Int.natCast_add, Int.natCast_succ]
    rw [Int.add_mul, Int.one_mul]
    omega
theorem binR_tmul {ds : List D} {n : Int} : binR .Mult (.im (.tup ds)) (.im (.int n)) = gd (1 ≤ n ∧ n ≤ 1000 ∧ ds.length ≤ 1000 ∧ ds ≠ []) (.im (.tup (List.replicate n.toNat ds).flatten)) := (rfl)
theorem wp_atI2 {x y i : Int} {P : Int → Prop} {Q : D → Prop} (h0 : 0 ≤ i) (h1 : i < 2) (hx : P x) (hy : P y) (h : ∀ b, P b → Q (.int b)) : Wp (atI [D.int x, D.int y] i) Q := by
  have : i = 0 ∨ i = 1 := by omega
  rcases this with rfl | rfl
  · rw [atI_0]; exact ⟨_, rfl, h _ hx⟩
  · rw [atI_1]; exact ⟨_, rfl, h _ hy⟩
/-- a row, its threads -/
def rowT (T0 : Tb) (w : List Str) : D := .tup [rowD T0 w, .lst (sD w)]
section
variable {fds : Nat → Option FD} {T0 : Tb}
/-- Row(..) with all three told -/
theorem mk_row (h : PH fds T0) (d j : Nat) (hj : j = 11 ∨ j = 12 ∨ j = 13 ∨ j = 14 ∨ j = 15) (st : List (Str × Nat)) (hs : StOk st) (b : Int) (b1 : -1000000000000000000000000000000 ≤ b) (b2 : b ≤ 1000000000000000000000000000000) (hr : lrnd (manF j (expand st)) ≤ 240) :
    makK (tbN 40 fds T0 (d + 6)) 1 [.tup (stD st), .str (manS j), .int b] = some (.im (rowD T0 (root (manF j (expand st)) b))) := by
  have hi := sp_init h d j hj st hs b b1 b2 hr
  apply wp_eq
  simp -implicitDefEqProofs [h.init1, hi, h.full1, rowD]
theorem sp_lmoved (h : PK fds) (d : Nat) (w : List Str) (b : Int) (hw : WOk w) : callN 40 fds T0 (d + 1) 35 [.im (.lst (sD w)), .im (.int b)] = some (.ret (.ow (.lst (sD (moved w b)))) [.im (.lst (sD w)), .im (.int b)]) := by
  have hn := hw.pos
  have hle := hw.le
  have z : ∀ n, evP (tbN 40 fds T0 d) (n + 5) (.lc [2] .range1 [(.bi .len [(.var 0)])] none (.ix (.var 0) (.bin .Mod (.bin .Sub (.var 2) (.var 1)) (.bi .len [(.var 0)])))) [.im (.lst (sD w)), .im (.int b), .un] = some (.ow (.lst (sD (moved w b)))) := by
    intro n
    rw [evP_lcR (m := w.length) (g := fun k => .str (thr w ((k : Int) - b))) (by apply wp_eq; simp -implicitDefEqProofs [biR, R.seq?]) (by rw [hz]; omega) (by simp)]
    · unfold moved mk sD
      rw [List.map_map]; rfl
    · intro k hk
      have f1 := Int.emod_nonneg ((k : Int) - b) (show (w.length : Int) ≠ 0 by omega)
      have f2 := Int.emod_lt_of_pos ((k : Int) - b) (show (0 : Int) < (w.length : Int) by omega)
      apply wp_eq
      simp -implicitDefEqProofs [binR_mod, ixR, R.lsq?, biR, R.seq?, at_thr f1 f2, thr_mod, hn]
  rw [callN_def h.f35 d _ rfl]
  apply wp_eq
  simp -implicitDefEqProofs [Q_moved, z]
theorem sp_lturned (h : PK fds) (d : Nat) (w : List Str) (hw : WOk w) : callN 40 fds T0 (d + 1) 32 [.im (.lst (sD w))] = some (.ret (.ow (.lst (sD (turned w)))) [.im (.lst (sD w))]) := by
  have hn := hw.pos
  have hle := hw.le
  have z : ∀ n, evP (tbN 40 fds T0 d) (n + 5) (.lc [1] .range1 [(.bi .len [(.var 0)])] none (.ix (.var 0) (.bin .Sub (.int 0) (.var 1)))) [.im (.lst (sD w)), .un] = some (.ow (.lst (sD (turned w)))) := by
    intro n
    rw [evP_lcR (m := w.length) (g := fun k => .str (thr w (-(k : Int)))) (by apply wp_eq; simp -implicitDefEqProofs [biR, R.seq?]) (by rw [hz]; omega) (by simp)]
    · unfold turned mk sD
      rw [List.map_map]; rfl
    · intro k hk
      have hat : atI (sD w) (-(k : Int)) = some (.str (thr w (-(k : Int)))) := by
        rcases Nat.eq_zero_or_pos k with z | z
        · subst z; exact at_thr (by omega) (by omega)
        · exact at_neg (by omega) (by omega)
      apply wp_eq
      simp -implicitDefEqProofs [ixR, R.lsq?, hat]
  rw [callN_def h.f32 d _ rfl]
  apply wp_eq
  simp -implicitDefEqProofs [Q_turned, z]
theorem sp_drawn (hk : PK fds) (hq : PQ fds) (h : PH fds T0) (d : Nat) (n : Int) : Wp (callN 40 fds T0 (d + 9) 29 [pl n]) fun o => ∃ n' w, o = .ret (.im (rowT T0 w)) [pl n'] ∧ Prim w ∧ WOk w := by
  rw [callN_def hk.f29 (d + 8) _ rfl]
  simp -implicitDefEqProofs [Q_drawn_row, sp_take hq, once, hz]
  have q0 := Int.emod_nonneg n (show (4 : Int) ≠ 0 by decide)
  have q1 := Int.emod_lt_of_pos n (show (0 : Int) < 4 by decide)
  refine (sp_shades hq (d + 6) _ _ (by omega) (by omega)).imp ?_
  rintro _ ⟨n1, sh, rfl, hl, hs⟩
  have a0 := Int.emod_nonneg n1 (show (6 : Int) ≠ 0 by decide)
  have a1 := Int.emod_lt_of_pos n1 (show (0 : Int) < 6 by decide)
  have hat := at_thr (w := MN) a0 a1
  obtain ⟨j, hj, hjs⟩ := mn_man (thr_mem (w := MN) (by decide) (n1 % 6))
  rw [hjs] at hat
  unfold MN sD at hat
  simp only [List.map_cons, List.map_nil] at hat
  simp -implicitDefEqProofs [sp_take hq, once, hz, ixR, R.lsq?, hat]
  refine (sp_draws hq (d + 6) _ _ _ sh (by omega) (by omega) (by omega) (by omega) (by omega) (by omega)).imp ?_
  rintro _ ⟨n2, st, rfl, hst1, hst2, hst3⟩
  have c0 : 0 ≤ n2 % 4 / 3 ∧ n2 % 4 / 3 ≤ 1 := by omega
  have hml := many_bound (wi := 3) (by decide) fun p m => (hst3 p m).2.2
  have hmr := many_rep st (1 + n2 % 4 / 3).toNat
  have hst' : StOk (repL (1 + n2 % 4 / 3).toNat st) := by
    refine ⟨fun z => ?_, fun p m => ⟨hs _ (hst3 p (mem_rep m)).1, (hst3 p (mem_rep m)).2.1⟩, ?_⟩
    · have h1 := len_many fun p m => (hst3 p m).2.1
      have h2 := List.length_pos_iff.mpr hst1
      have : (1 + n2 % 4 / 3).toNat = 1 ∨ (1 + n2 % 4 / 3).toNat = 2 := by omega
      rw [z] at hmr
      simp only [many] at hmr
      rcases this with e | e <;> rw [e] at hmr <;> omega
    · have : (1 + n2 % 4 / 3).toNat = 1 ∨ (1 + n2 % 4 / 3).toNat = 2 := by omega
      rcases this with e | e <;> rw [e] at hmr ⊢ <;> omega
  have hmul : binR .Mult (.im (.tup (stD st))) (.im (.int (1 + n2 % 4 / 3))) = some (.im (.tup (stD (repL (1 + n2 % 4 / 3).toNat st)))) := by
    rw [binR_tmul, gd_pos ⟨by omega, by omega, by rw [stD_length]; omega, fun z => hst1 (stD_nil.mp z)⟩, stD_rep]
  have hcd : ∀ i : Int, CDivW i 3 := fun i => cdivw (by decide) (by decide)
  have hM : CMul (2 : Int) 1000000000000000000000000000000 ∨ CMulW (2 : Int) 1000000000000000000000000000000 := .inl (.inl (by decide))
  have h18 : many (repL (1 + n2 % 4 / 3).toNat st) ≤ 18 := by
    have : (1 + n2 % 4 / 3).toNat = 1 ∨ (1 + n2 % 4 / 3).toNat = 2 := by omega
    rcases this with e | e <;> rw [e] at hmr ⊢ <;> omega
  generalize repL (1 + n2 % 4 / 3).toNat st = st' at hmul hst' h18
  simp -implicitDefEqProofs [sp_take hq, once, hz, ixR, R.lsq?, binR_div, hcd, hmul, binR_pow, CPow, binR_mul, hM]
  refine wp_atI2 (P := fun b => -1000000000000000000000000000000 ≤ b ∧ b ≤ 1000000000000000000000000000000) (by omega) (by omega) (by omega) (by omega) ?_
  rintro b ⟨b1, b2⟩
  have hw := hst'.w
  have hwl := manF_length j (expand st')
  have hpos : 0 < (manF j (expand st')).length := by have := hw.pos; omega
  have hr : lrnd (manF j (expand st')) ≤ 240 := by
    have h1 := lrnd_le hpos
    have h2 := expand_length st'
    omega
  have hi := sp_init h (d + 2) j hj st' hst' b b1 b2 hr
  have hd := sp_due (T0 := T0) hq (d + 6) j hj st' hst' b
  have hp := prim_root hpos b
  have hW : WOk (root (manF j (expand st')) b) := ⟨hp.1, fun s m => hw.sh s (manF_mem (mk_mem hpos m)), by rw [root_length]; exact hr⟩
  generalize root (manF j (expand st')) b = W at hi hd hp hW
  have em : ∀ x : Int, callN 40 fds T0 (d + 8) 54 [.im (.ins (T0.cls 1) [("kept", .tup (sD W))]), .im (.int (x % 60 - 30))] = some (.ret (.im (.ins (T0.cls 1) [("kept", .tup (sD (moved W (x % 60 - 30))))])) [.im (.ins (T0.cls 1) [("kept", .tup (sD W))]), .im (.int (x % 60 - 30))]) := fun x => sp_moved h d W (x % 60 - 30) hp hW (by omega) (by omega)
  have et : callN 40 fds T0 (d + 8) 55 [.im (.ins (T0.cls 1) [("kept", .tup (sD W))])] = some (.ret (.im (.ins (T0.cls 1) [("kept", .tup (sD (turned W)))])) [.im (.ins (T0.cls 1) [("kept", .tup (sD W))])]) := sp_turned h d W hp hW
  have hn := hW.pos
  have hle := hW.le
  have z1 : ∀ n s0 s1 s2 s3 s4 s5 s7 b, evP (tbN 40 fds T0 (d + 8)) (n + 5) (.lc [9] .range1 [(.bi .len [(.var 6)])] none (.ix (.var 6) (.bin .Mod (.bin .Sub (.var 9) (.var 8)) (.bi .len [(.var 6)])))) [s0, s1, s2, s3, s4, s5, .im (.lst (sD W)), s7, .im (.int b), .un] = some (.ow (.lst (sD (moved W b)))) := by
    intro n s0 s1 s2 s3 s4 s5 s7 b
    rw [evP_lcR (m := W.length) (g := fun k => .str (thr W ((k : Int) - b))) (by apply wp_eq; simp -implicitDefEqProofs [biR, R.seq?]) (by rw [hz]; omega) (by simp)]
    · unfold moved mk sD
      rw [List.map_map]; rfl
    · intro k hk
      have f1 := Int.emod_nonneg ((k : Int) - b) (show (W.length : Int) ≠ 0 by omega)
      have f2 := Int.emod_lt_of_pos ((k : Int) - b) (show (0 : Int) < (W.length : Int) by omega)
      apply wp_eq
      simp -implicitDefEqProofs [binR_mod, ixR, R.lsq?, biR, R.seq?, at_thr f1 f2, thr_mod, hn]
  have z2 : ∀ n s0 s1 s2 s3 s4 s5 s7 s8, evP (tbN 40 fds T0 (d + 8)) (n + 5) (.lc [9] .range1 [(.bi .len [(.var 6)])] none (.ix (.var 6) (.bin .Sub (.int 0) (.var 9)))) [s0, s1, s2, s3, s4, s5, .im (.lst (sD W)), s7, s8, .un] = some (.ow (.lst (sD (turned W)))) := by
    intro n s0 s1 s2 s3 s4 s5 s7 s8
    rw [evP_lcR (m := W.length) (g := fun k => .str (thr W (-(k : Int)))) (by apply wp_eq; simp -implicitDefEqProofs [biR, R.seq?]) (by rw [hz]; omega) (by simp)]
    · unfold turned mk sD
      rw [List.map_map]; rfl
    · intro k hk
      have hat : atI (sD W) (-(k : Int)) = some (.str (thr W (-(k : Int)))) := by
        rcases Nat.eq_zero_or_pos k with z | z
        · subst z; exact at_thr (by omega) (by omega)
        · exact at_neg (by omega) (by omega)
      apply wp_eq
      simp -implicitDefEqProofs [ixR, R.lsq?, hat]
  simp -implicitDefEqProofs [sp_take hq, once, hz, h.init1, hi, h.full1, hd, h.meth2, h.meth3, h.mnm2, h.mnm3, em, et, z1, z2]
  refine ⟨fun q1 => ?_, fun q1 => ⟨fun q2 => ?_, fun q2 => ?_⟩⟩
  · exact ⟨fun q2 => by omega, fun _ => ⟨_, moved W _, ⟨rfl, rfl⟩, prim_moved hp _, hW.moved _⟩⟩
  · exact ⟨_, turned W, ⟨rfl, rfl⟩, prim_turned hp, hW.turned⟩
  · exact ⟨_, W, ⟨rfl, rfl⟩, hp, hW⟩
def ones (v : List Str) : List (Str × Nat) := v.map fun s => (s, 1)
theorem expand_ones : ∀ v, expand (ones v) = v
  | [] => rfl
  | s :: v => by
    show List.replicate 1 s ++ expand (ones v) = _
    rw [expand_ones v]; rfl
theorem ones_ok {v : List Str} (hv : WOk v) : StOk (ones v) := by
  refine ⟨fun z => ?_, fun p m => ?_, ?_⟩
  · have := congrArg List.length z
    unfold ones at this
    rw [List.length_map] at this
    have := hv.pos
    rw [List.length_nil] at *
    omega
  · obtain ⟨s, hs, rfl⟩ := List.mem_map.mp m
    exact ⟨hv.sh s hs, Nat.le_refl _⟩
  · rw [← expand_length, expand_ones]; exact hv.le
theorem sp_made (hk : PK fds) (h : PH fds T0) (d : Nat) (w : List Str) (hp : Prim w) (hw : WOk w) : callN 40 fds T0 (d + 7) 30 [.im (.lst (sD w))] = some (.ret (.im (rowD T0 w)) [.im (.lst (sD w))]) := by
  have hn := hw.pos
  have hle := hw.le
  have hrot : rot w (w.length / 2) = moved w (-((w.length / 2 : Nat) : Int)) := rot_eq hn (by omega)
  have hv : WOk (rot w (w.length / 2)) := by rw [hrot]; exact hw.moved _
  have hpv : Prim (rot w (w.length / 2)) := by rw [hrot]; exact prim_moved hp _
  have hroot : root (manF 11 (expand (ones (rot w (w.length / 2))))) (-((w.length / 2 : Nat) : Int)) = w := by
    rw [expand_ones]
    show root (rot w (w.length / 2)) _ = w
    rw [root_prim hpv, hrot, moved_moved hn]
    have : -((w.length / 2 : Nat) : Int) + - -((w.length / 2 : Nat) : Int) = 0 := by omega
    rw [this, moved_zero hn]
  have hi := sp_init h d 11 (.inl rfl) (ones (rot w (w.length / 2))) (ones_ok hv) (-((w.length / 2 : Nat) : Int)) (by omega) (by omega) (by rw [expand_ones]; show lrnd (rot w (w.length / 2)) ≤ 240; rw [hpv.2]; exact hv.le)
  rw [hroot] at hi
  have hi' : callN 40 fds T0 (d + 6) 51 [.mu (.ins (T0.cls 1) []), .im (.tup (stD (ones (rot w (w.length / 2))))), .im (.str "run"), .im (.int (-((w.length / 2 : Nat) : Int)))] = _ := hi
  have c1 : cutD (sD w) (some ((w.length / 2 : Nat) : Int)) none = sD (w.drop (w.length / 2)) := by
    rw [cut_drop (by omega) (by simp; omega), Int.toNat_natCast]
    simp [sD]
  have c2 : cutD (sD w) none (some ((w.length / 2 : Nat) : Int)) = sD (w.take (w.length / 2)) := by
    rw [cut_take (by omega) (by simp; omega), Int.toNat_natCast]
    simp [sD]
  have hcd : CDivW (w.length : Int) 2 := cdivw (by decide) (by decide)
  have hdv : (w.length : Int) / 2 = ((w.length / 2 : Nat) : Int) := by omega
  have z : ∀ n, evP (tbN 40 fds T0 (d + 6)) (n + 6) (.lc [2] .seq [(.bin .Add (.sl (.var 0) (some (.var 1)) none) (.sl (.var 0) none (some (.var 1))))] none (.tup [(.var 2), (.int 1)])) [.im (.lst (sD w)), .im (.int ((w.length / 2 : Nat) : Int)), .un] = some (.ow (.lst (stD (ones (rot w (w.length / 2)))))) := by
    intro n
    rw [evP_lcS (r := .ow (.lst (sD (rot w (w.length / 2))))) (ds := sD (rot w (w.length / 2))) (g := fun d => .tup [d, .int 1]) ?_ rfl (by rw [sD_length, hz, rot_length]; omega) (by simp) fun x hx => ?_]
    · unfold sD stD ones
      rw [List.map_map, List.map_map]; rfl
    · apply wp_eq
      simp -implicitDefEqProofs only [evP_bin, evP_sl, evP_var, binK_eq, slK_eq, slK2_eq, evo_none, evo_some, somK_eq, int?_int, Wp_bind, Wp_map, Wp_some, WpK_eq, WpM_eq, slotR_im, List.getElem?_cons_zero, List.getElem?_cons_succ, slR, R.lsq?, c1, c2, binR, catR, R.lst?, hz, Wp_gd, sD_length]
      refine ⟨?_, by rw [← sD_app]; rfl⟩
      rw [List.length_drop, List.length_take]
      omega
    · apply wp_eq
      simp -implicitDefEqProofs [hz]
  rw [callN_def hk.f30 (d + 6) _ rfl]
  apply wp_eq
  simp only [← hdv] at z hi'
  simp -implicitDefEqProofs [Q_made, biR, R.seq?, binR_div, hcd, z, h.init1, hi', h.full1]
  rfl
theorem sp_lleast (hk : PK fds) (d : Nat) (w : List Str) (hw : WOk w) : callN 40 fds T0 (d + 1) 31 [.im (.lst (sD w))] = some (.ret (.im (.tup (sD (least w)))) [.im (.lst (sD w))]) := by
  have hn := hw.pos
  have hle := hw.le
  have z : ∀ n, evP (tbN 40 fds T0 d) (n + 5) (.lc [1] .range1 [(.bi .len [(.var 0)])] none (.bi .tuple [(.bin .Add (.sl (.var 0) (some (.var 1)) none) (.sl (.var 0) none (some (.var 1))))])) [.im (.lst (sD w)), .un] = some (.ow (.lst ((rots w).map fun v => .tup (sD v)))) := by
    intro n
    rw [evP_lcR (m := w.length) (g := fun k => .tup (sD (rot w k))) (by apply wp_eq; simp -implicitDefEqProofs [biR, R.seq?]) (by rw [hz]; omega) (by simp)]
    · unfold rots mk
      rw [List.map_map]; rfl
    · intro k hk
      have c1 : cutD (sD w) (some (k : Int)) none = sD (w.drop k) := by
        rw [cut_drop (by omega) (by simp; omega)]
        simp [sD]
      have c2 : cutD (sD w) none (some (k : Int)) = sD (w.take k) := by
        rw [cut_take (by omega) (by simp; omega)]
        simp [sD]
      apply wp_eq
      simp -implicitDefEqProofs [slR, R.lsq?, c1, c2, binR, catR, R.lst?, hz, rot, biR, R.seq?]
      exact ⟨by omega, by simp [sD]⟩
  rw [callN_def hk.f31 d _ rfl]
  apply wp_eq
  simp -implicitDefEqProofs [Q_least, z, biR_min (rots_ne hn)]
  rfl
/-- two lists of threads -/
def prtD (p : List Str × List Str) : D := .tup [.lst (sD p.1), .lst (sD p.2)]
@[simp] theorem ixR_prt0 (p : List Str × List Str) : ixR (.im (prtD p)) (.im (.int 0)) = some (.im (.lst (sD p.1))) := (rfl)
@[simp] theorem ixR_prt1 (p : List Str × List Str) : ixR (.im (prtD p)) (.im (.int 1)) = some (.im (.lst (sD p.2))) := (rfl)
theorem in_sw (g : Way) : inR (.im (.str (wayS g))) (.ow (.lst [.str "swap", .str "right", .str "left", .str "cross"])) = some g.1 := by
  rw [inR_sD (w := ["swap", "right", "left", "cross"]) rfl (fun z q => by cases q)]
  congr 1
  obtain ⟨x, y, z⟩ := g
  cases x <;> cases y <;> cases z <;> decide +kernel
theorem in_tw (g : Way) : inR (.im (.str (wayS g))) (.ow (.lst [.str "mirror", .str "half", .str "right", .str "cross"])) = some g.2.1 := by
  rw [inR_sD (w := ["mirror", "half", "right", "cross"]) rfl (fun z q => by cases q)]
  congr 1
  obtain ⟨x, y, z⟩ := g
  cases x <;> cases y <;> cases z <;> decide +kernel
theorem in_tf (g : Way) : inR (.im (.str (wayS g))) (.ow (.lst [.str "flip", .str "half", .str "left", .str "cross"])) = some g.2.2 := by
  rw [inR_sD (w := ["flip", "half", "left", "cross"]) rfl (fun z q => by cases q)]
  congr 1
  obtain ⟨x, y, z⟩ := g
  cases x <;> cases y <;> cases z <;> decide +kernel
theorem sp_byway (hk : PK fds) (d : Nat) (p : List Str × List Str) (h1 : WOk p.1) (h2 : WOk p.2) (g : Way) : callN 40 fds T0 (d + 2) 33 [.im (.lst (sD p.1)), .im (.lst (sD p.2)), .im (.str (wayS g))] = some (.ret (.im (prtD (byW turned g p))) [.im (.lst (sD (byW turned g p).1)), .im (.lst (sD (byW turned g p).2)), .im (.str (wayS g))]) := by
  have t1 := sp_lturned hk (T0 := T0) d p.1 h1
  have t2 := sp_lturned hk (T0 := T0) d p.2 h2
  have w1 := in_sw g
  have w2 := in_tw g
  have w3 := in_tf g
  rw [callN_def hk.f33 (d + 1) _ rfl]
  apply wp_eq
  obtain ⟨x, y, z⟩ := g
  cases x <;> cases y <;> cases z <;>
    simp -implicitDefEqProofs [Q_by_way, cmpR, w1, w2, w3, hz, t1, t2, byW, prtD]
theorem sp_ways (hk : PK fds) (d : Nat) : callN 40 fds T0 (d + 1) 34 [] = some (.ret (.ow (.lst (sD (wayL ways8)))) []) := by
  rw [callN_def hk.f34 d _ rfl]
  apply wp_eq
  simp -implicitDefEqProofs [Q_ways, hz]
  exact rfl
theorem evP_lc2 {T : Tb} {n i : Nat} {Γ : List Slot} {b e : PE} {r : R} {d1 d2 y1 y2 : D} (h1 : evP T n b Γ = some r) (h2 : itR .seq [r] = some [d1, d2]) (h3 : i < Γ.length) (e1 : (evP T n e (Γ.set i (.im d1))).bind R.toD = some y1) (e2 : (evP T n e (Γ.set i (.im d2))).bind R.toD = some y2) :
    evP T (n + 1) (.lc [i] .seq [b] none e) Γ = some (.ow (.lst [y1, y2])) := by
  show (evs T n Γ [b]).bind _ = _
  rw [show evs T n Γ [b] = some [r] by apply wp_eq; simp [h1]]
  show (itR .seq [r]).bind _ = _
  rw [h2]
  simp only [Option.bind_some]
  rw [if_pos (show [d1, d2].length ≤ sizeLine from (show 2 ≤ sizeLine by decide))]
  have b1 : bindL [i] d1 Γ = some (Γ.set i (.im d1)) := if_pos h3
  have b2 : bindL [i] d2 Γ = some (Γ.set i (.im d2)) := if_pos h3
  simp only [lcRun, b1, b2, Option.bind_some, e1, e2, Option.map_some]
theorem eqR_2 (a b c e : List Str) : eqR (.ow (.lst [.tup (sD a), .tup (sD b)])) (.im (.lst [.tup (sD c), .tup (sD e)])) = some (decide ((a, b) = (c, e))) := by
  have p1 : pyD (.lst [.tup (sD a), .tup (sD b)]) = some (.list ([a, b].map pyT)) := by
    show (match pyDs ([a, b].map fun w => D.tup (sD w)) with | some ps => some (PyData.list ps) | none => none) = _
    rw [pyDs_tups]
  have p2 : pyD (.lst [.tup (sD c), .tup (sD e)]) = some (.list ([c, e].map pyT)) := by
    show (match pyDs ([c, e].map fun w => D.tup (sD w)) with | some ps => some (PyData.list ps) | none => none) = _
    rw [pyDs_tups]
  have hd : (PyData.list ([a, b].map pyT)).depth ≤ 60 := by
    have h1 := depth_pyT a
    have h2 := depth_pyT b
    simp only [List.map_cons, List.map_nil, PyData.depth, PyData.depthAll]
    omega
  rw [eqR_of rfl rfl p1 p2 hd]
  congr 1
  rw [PyData.eqv, eqvAll_tups]
  simp
/-- behind k ways -/
def WdI2 (p q : List Str × List Str) (k : Nat) (Γ : List Slot) : Prop := ∃ x4, Γ = [.im (prtD p), .im (prtD q), .im (.lst [.tup (sD (least q.1)), .tup (sD (least q.2))]), .ow (.lst (sD (wayL ((ways8.take k).filter fun g => decide (byW tc g (cl p) = cl q))))), x4, .un] ∧ Fr x4
theorem sp_waysdue (hk : PK fds) (d : Nat) (p q : List Str × List Str) (p1 : WOk p.1) (p2 : WOk p.2) (q1 : WOk q.1) (q2 : WOk q.2) : callN 40 fds T0 (d + 4) 36 [.im (prtD p), .im (prtD q)] = some (.ret (.im (.tup (sD (wayL (found tc (cl p) (cl q)))))) [.im (prtD p), .im (prtD q)]) := by
  have e1 := sp_lleast hk (T0 := T0) (d + 2) q.1 q1
  have e2 := sp_lleast hk (T0 := T0) (d + 2) q.2 q2
  have hwy := sp_ways hk (T0 := T0) (d + 2)
  have z : ∀ n s3, evP (tbN 40 fds T0 (d + 3)) (n + 5) (.lc [5] .seq [(.var 1)] none (.call 31 [(.var 5)])) [.im (prtD p), .im (prtD q), .un, s3, .un, .un] = some (.ow (.lst [.tup (sD (least q.1)), .tup (sD (least q.2))])) := by
    intro n s3
    refine evP_lc2 (r := .im (prtD q)) (by simp) rfl (by simp) ?_ ?_
    · apply wp_eq
      simp -implicitDefEqProofs [e1]
    · apply wp_eq
      simp -implicitDefEqProofs [e2]
  rw [callN_def hk.f36 (d + 3) _ rfl]
  apply wp_eq
  simp -implicitDefEqProofs [Q_ways_due, z, hz, hwy, itK, itR]
  refine loopR_wp (I := WdI2 p q) ⟨_, rfl, .un⟩ ?_ ?_
  · rintro k e Γ he ⟨x4, rfl, f4⟩
    unfold wayL sD at he
    rw [List.map_map, List.getElem?_map, Option.map_eq_some_iff] at he
    obtain ⟨g, hg, rfl⟩ := he
    have b := byW_ok p1 p2 g
    have b1 := sp_byway hk (T0 := T0) (d + 1) p p1 p2 g
    have l1 := sp_lleast hk (T0 := T0) (d + 2) _ b.1
    have l2 := sp_lleast hk (T0 := T0) (d + 2) _ b.2
    have hq2 := eqR_2 (least (byW turned g p).1) (least (byW turned g p).2) (least q.1) (least q.2)
    have hcl : ((least (byW turned g p).1, least (byW turned g p).2) = (least q.1, least q.2)) ↔ (byW tc g (cl p) = cl q) := by
      rw [← cl_byW p1.pos p2.pos g]
      exact Iff.rfl
    have z2 : ∀ n Δ s4, evP (tbN 40 fds T0 (d + 3)) (n + 6) (.lc [5] .seq [(.call 33 [(.ix (.var 0) (.int 0)), (.ix (.var 0) (.int 1)), (.var 4)])] none (.call 31 [(.var 5)])) [.im (prtD p), .im (prtD q), s4, Δ, .im (.str (wayS g)), .un] = some (.ow (.lst [.tup (sD (least (byW turned g p).1)), .tup (sD (least (byW turned g p).2))])) := by
      intro n Δ s4
      refine evP_lc2 (r := .im (prtD (byW turned g p))) ?_ rfl (by simp) ?_ ?_
      · apply wp_eq
        simp -implicitDefEqProofs [b1]
      · apply wp_eq
        simp -implicitDefEqProofs [l1]
      · apply wp_eq
        simp -implicitDefEqProofs [l2]
    have ht : ways8.take (k + 1) = ways8.take k ++ [g] := by rw [List.take_add_one, hg]; rfl
    rw [turnS_eq]
    simp -implicitDefEqProofs [stoK_fr f4, z2, hq2, hz, hcl]
    have hlen : (wayL (List.filter (fun g => decide (byW tc g (cl p) = cl q)) (List.take k ways8))).length < 16777216 := by
      unfold wayL
      rw [List.length_map]
      have h1 := List.length_filter_le (fun g => decide (byW tc g (cl p) = cl q)) (List.take k ways8)
      have h2 := List.length_take_le k ways8
      have h3 : ways8.length = 8 := rfl
      have h4 := List.length_take_le' k ways8
      omega
    refine ⟨fun c => ⟨hlen, ?_⟩, fun c => ?_⟩
    · refine ⟨.im (.str (wayS g)), ?_, .im⟩
      rw [ht, List.filter_append]
      simp [c, wayL, sD]
    · refine ⟨.im (.str (wayS g)), ?_, .im⟩
      rw [ht, List.filter_append]
      simp [c]
  · rintro Γ ⟨x4, rfl, f4⟩
    simp -implicitDefEqProofs [biR, R.seq?]
    rfl
theorem sp_lcloth (hk : PK fds) (h : PH fds T0) (hc : PC fds T0) (d : Nat) (p : List Str × List Str) (p1 : WOk p.1) (p2 : WOk p.2) (r1 : Prim p.1) (r2 : Prim p.2) : callN 40 fds T0 (d + 8) 37 [.im (prtD p)] = some (.ret (.im (clothD T0 p)) [.im (prtD p)]) := by
  have e1 := sp_made hk h d p.1 r1 p1
  have e2 := sp_made hk h d p.2 r2 p2
  have ci := sp_cinit hc (d + 6) (rowD T0 p.1) (rowD T0 p.2)
  rw [callN_def hk.f37 (d + 7) _ rfl]
  apply wp_eq
  simp -implicitDefEqProofs [Q_cloth, e1, e2, hc.init0, ci, hc.full0]
  rfl
theorem inR_ints {ra : R} {i : Int} {l : List Int} (hr : ra.seq? = some (l.map D.int)) : inR (.im (.int i)) ra = some (decide (i ∈ l)) := by
  have e : inR (.im (.int i)) ra = (((R.im (.int i)).lookD.bind pyD).bind fun p => (ra.seq?.bind pyDs).bind fun qs => gd (p.depth ≤ 60) (qs.any fun y => PyData.eqv y p)) := rfl
  have e2 : pyDs (l.map D.int) = some (l.map PyData.int) := by
    clear e hr
    induction l with
    | nil => rfl
    | cons a l ih =>
      show (match pyDs (l.map D.int) with | some ps => some (PyData.int a :: ps) | none => none) = _
      rw [ih]; rfl
  rw [e, hr]
  simp only [lookD_im, Option.bind_some, pyD, e2]
  rw [gd_pos (by simp [PyData.depth])]
  congr 1
  rw [Bool.eq_iff_iff, decide_eq_true_iff, List.any_map, List.any_eq_true]
  constructor
  · rintro ⟨x, m, e⟩
    simp [PyData.eqv] at e
    rw [← e]; exact m
  · intro m
    exact ⟨i, m, by simp [PyData.eqv]⟩
theorem in_12 (i : Int) : inR (.im (.int i)) (.ow (.lst [.int 1, .int 2])) = some (decide (i = 1 ∨ i = 2)) := by
  rw [inR_ints (l := [1, 2]) rfl]
  simp
theorem meth_row (h : PH fds T0) : T0.meth 2 = (1, 54) ∧ T0.meth 3 = (1, 55) := ⟨h.meth2, h.meth3⟩
/-- a cloth and its threads -/
theorem sp_parts (hk : PK fds) (hq : PQ fds) (h : PH fds T0) (hc : PC fds T0) (d : Nat) (n m : Int) : Wp (callN 40 fds T0 (d + 10) 38 [pl n, pl m]) fun o => ∃ n' m' p, o = .ret (.im (.tup [clothD T0 p, prtD p])) [pl n', pl m'] ∧ Prim p.1 ∧ Prim p.2 ∧ WOk p.1 ∧ WOk p.2 := by
  rw [callN_def hk.f38 (d + 9) _ rfl]
  simp -implicitDefEqProofs [Q_parts, once, hz]
  refine (sp_drawn hk hq h d n).imp ?_
  rintro _ ⟨n1, w, rfl, wp, ww⟩
  simp -implicitDefEqProofs [once, hz]
  refine (sp_drawn hk hq h d m).imp ?_
  rintro _ ⟨m1, v, rfl, vp, vw⟩
  have em : ∀ x : Int, callN 40 fds T0 (d + 9) 54 [.im (.ins (T0.cls 1) [("kept", .tup (sD w))]), .im (.int (x % 20))] = some (.ret (.im (.ins (T0.cls 1) [("kept", .tup (sD (moved w (x % 20))))])) [.im (.ins (T0.cls 1) [("kept", .tup (sD w))]), .im (.int (x % 20))]) := fun x => sp_moved h (d + 1) w (x % 20) wp ww (by omega) (by omega)
  have et : ∀ u, Prim u → WOk u → callN 40 fds T0 (d + 9) 55 [.im (.ins (T0.cls 1) [("kept", .tup (sD u))])] = some (.ret (.im (.ins (T0.cls 1) [("kept", .tup (sD (turned u)))])) [.im (.ins (T0.cls 1) [("kept", .tup (sD u))])]) := fun u hp hu => sp_turned h (d + 1) u hp hu
  have lm : ∀ x : Int, callN 40 fds T0 (d + 9) 35 [.im (.lst (sD w)), .im (.int x)] = some (.ret (.ow (.lst (sD (moved w x)))) [.im (.lst (sD w)), .im (.int x)]) := fun x => sp_lmoved hk (d + 8) w x ww
  have lt : ∀ u, WOk u → callN 40 fds T0 (d + 9) 32 [.im (.lst (sD u))] = some (.ret (.ow (.lst (sD (turned u)))) [.im (.lst (sD u))]) := fun u hu => sp_lturned hk (d + 8) u hu
  have ci := fun a b => sp_cinit hc (d + 8) a b
  have mp := prim_moved wp (m1 / 6 % 20)
  have mw := ww.moved (m1 / 6 % 20)
  simp -implicitDefEqProofs [rowT, rowD, once, hz, sp_take hq, h.meth2, h.meth3, h.mnm2, h.mnm3, em, lm, in_12, cmpR, et v vp vw, lt v vw, et _ mp mw, lt _ mw, hc.init0, ci, hc.full0]
  exact ⟨fun _ => ⟨fun _ => ⟨_, _, w, turned (moved w (m1 / 6 % 20)), ⟨⟨rfl, rfl⟩, rfl, rfl⟩, wp, prim_turned mp, ww, mw.turned⟩, fun _ _ => ⟨_, _, w, moved w (m1 / 6 % 20), ⟨⟨rfl, rfl⟩, rfl, rfl⟩, wp, mp, ww, mw⟩⟩,
    fun _ => ⟨fun _ => ⟨_, _, w, turned v, ⟨⟨rfl, rfl⟩, rfl, rfl⟩, wp, prim_turned vp, ww, vw.turned⟩, fun _ _ => ⟨_, _, w, v, ⟨⟨rfl, rfl⟩, rfl, rfl⟩, wp, vp, ww, vw⟩⟩⟩
end
end LW
/-! SE: the law of k37. -/
namespace LW
open PySem PySem.Spec L2 DL WD
/-- both rows good -/
structure POk (p : List Str × List Str) : Prop where
  w1 : WOk p.1
  w2 : WOk p.2
  r1 : Prim p.1
  r2 : Prim p.2
theorem stg_prt {T : Tb} {np n : Nat} {ts : List Tg} {q : List Str × List Str} {Γ : List Slot} : stg T np (n + 1) (.tup ts) (prtD q) Γ = stgs (stg T np n) ts [.lst (sD q.1), .lst (sD q.2)] Γ := (rfl)
theorem ixR_tup {ds : List D} {i : Int} : ixR (.im (.tup ds)) (.im (.int i)) = (atI ds i).map .im := (rfl)
theorem ixR_lst {ds : List D} {i : Int} : ixR (.im (.lst ds)) (.im (.int i)) = (atI ds i).map .im := (rfl)
theorem ixR_olst {ds : List D} {i : Int} : ixR (.ow (.lst ds)) (.im (.int i)) = (atI ds i).map .im := (rfl)
theorem slR_lst {ds : List D} {lo hi : Option Int} : slR (.im (.lst ds)) lo hi = some (.ow (.lst (cutD ds lo hi))) := (rfl)
theorem slR_olst {ds : List D} {lo hi : Option Int} : slR (.ow (.lst ds)) lo hi = some (.ow (.lst (cutD ds lo hi))) := (rfl)
theorem cat_oo {ds es : List D} : binR .Add (.ow (.lst ds)) (.ow (.lst es)) = gd (ds.length + es.length ≤ sizeLine) (.ow (.lst (ds ++ es))) := (rfl)
theorem cat_io {ds es : List D} : binR .Add (.im (.lst ds)) (.ow (.lst es)) = gd (ds.length + es.length ≤ sizeLine) (.ow (.lst (ds ++ es))) := (rfl)
theorem cat_ii {ds es : List D} : binR .Add (.im (.lst ds)) (.im (.lst es)) = gd (ds.length + es.length ≤ sizeLine) (.ow (.lst (ds ++ es))) := (rfl)
theorem len_lst {ds : List D} : biR .len [.im (.lst ds)] = some (.im (.int ds.length)) := (rfl)
theorem ixR_row1 (T0 : Tb) (w : List Str) : ixR (.im (rowT T0 w)) (.im (.int 1)) = some (.im (.lst (sD w))) := (rfl)
theorem byW_pok {p : List Str × List Str} (h : POk p) (g : Way) : POk (byW turned g p) := by
  obtain ⟨x, y, z⟩ := g
  cases x <;> cases y <;> cases z <;> exact ⟨by simp [byW, h.w1, h.w2, h.w1.turned, h.w2.turned], by simp [byW, h.w1, h.w2, h.w1.turned, h.w2.turned], by simp [byW, h.r1, h.r2, prim_turned h.r1, prim_turned h.r2], by simp [byW, h.r1, h.r2, prim_turned h.r1, prim_turned h.r2]⟩
theorem way_mem {s : Str} (hs : s ∈ wayL ways8) : ∃ g, s = wayS g := by
  obtain ⟨g, _, rfl⟩ := List.mem_map.mp hs
  exact ⟨g, rfl⟩
theorem biR_intbl (b : Bool) : biR .int [.im (.bl b)] = some (.im (.int (if b then 1 else 0))) := (rfl)
def bz (s : Str) : Str := if s = "b" then "zz" else "b"
theorem ix_bz (s : Str) : atI [D.str "b", D.str "zz"] (if decide (s = ("b" : Str)) = true then 1 else 0) = some (.str (bz s)) := by
  unfold bz
  by_cases h : s = "b"
  · rw [if_pos h, if_pos (by simpa using h)]; exact atI_1 _ _ _
  · rw [if_neg h, if_neg (by simpa using h)]; exact atI_0 _ _
theorem ix_bz' (s : Str) : atI [D.str "b", D.str "zz"] (if s = ("b" : Str) then 1 else 0) = some (.str (bz s)) := by
  have := ix_bz s
  simpa using this
theorem bz_shd (s : Str) : Shd (bz s) := by
  unfold bz
  split
  · exact ⟨by decide +kernel, by decide +kernel, by decide +kernel⟩
  · exact ⟨by decide +kernel, by decide +kernel, by decide +kernel⟩
def OthQ (T0 : Tb) (p : List Str × List Str) (o : Out) : Prop := ∃ m' g x y q1 q2 q3 q4, o = .ret (.im (.tup [.str (wayS g), .lst [prtD (moved (byW turned g p).1 x, moved (byW turned g p).2 y), prtD q1, prtD q2, prtD q3, prtD q4]])) [pl m', .im (prtD p)] ∧ POk q1 ∧ POk q2 ∧ POk q3 ∧ POk q4
section
variable {fds : Nat → Option FD} {T0 : Tb}
theorem sp_others (hk : PK fds) (hq : PQ fds) (h : PH fds T0) (d : Nat) (m : Int) (p : List Str × List Str) (hp : POk p) : Wp (callN 40 fds T0 (d + 10) 39 [pl m, .im (prtD p)]) (OthQ T0 p) := by
  have hwy := sp_ways hk (T0 := T0) (d + 8)
  have a0 := Int.emod_nonneg m (show (8 : Int) ≠ 0 by decide)
  have a1 := Int.emod_lt_of_pos m (show (0 : Int) < 8 by decide)
  have hat := at_thr (w := wayL ways8) a0 a1
  obtain ⟨g, hg⟩ := way_mem (thr_mem (w := wayL ways8) (by decide) (m % 8))
  rw [hg] at hat
  have hb := sp_byway hk (T0 := T0) (d + 7) p hp.w1 hp.w2 g
  have hB := byW_pok hp g
  have hBe : byW turned g p = byW turned g p := rfl
  generalize hBB : byW turned g p = B at hb hB
  have lm1 := fun x => sp_lmoved hk (T0 := T0) (d + 8) B.1 x hB.w1
  have lm2 := fun x => sp_lmoved hk (T0 := T0) (d + 8) B.2 x hB.w2
  have hBn := hB.w1.pos
  have hBl := hB.w1.le
  have tn := fun n => sp_take (T0 := T0) hq (d + 8) n (B.1.length : Int) (by omega) (by omega)
  rw [callN_def hk.f39 (d + 9) _ rfl]
  simp -implicitDefEqProofs [Q_others, once, hz, hwy, sp_take hq, ixR_lst, hat, hb, stg_prt, lm1, lm2, len_lst, tn]
  have t0 := Int.emod_nonneg (m / 8 / 30 / 30) (show (B.1.length : Int) ≠ 0 by omega)
  have t1 := Int.emod_lt_of_pos (m / 8 / 30 / 30) (show (0 : Int) < (B.1.length : Int) by omega)
  generalize m / 8 / 30 / 30 % (B.1.length : Int) = t at t0 t1
  obtain ⟨k, rfl⟩ := Int.eq_ofNat_of_zero_le t0
  have hkl : k < B.1.length := by omega
  have c1 : cutD (sD B.1) none (some (k : Int)) = sD (B.1.take k) := by
    rw [cut_take (by omega) (by simp; omega)]
    simp [sD]
  have c2 : cutD (sD B.1) (some ((k : Int) + 1)) none = sD (B.1.drop (k + 1)) := by
    rw [cut_drop (by omega) (by simp; omega)]
    have : ((k : Int) + 1).toNat = k + 1 := by omega
    rw [this]; simp [sD]
  have c3 := at_thr (w := B.1) t0 t1
  have hE : WOk (B.1.take k ++ [bz (thr B.1 (k : Int))] ++ B.1.drop (k + 1)) := by
    refine ⟨by simp only [List.length_append, List.length_singleton]; omega, fun s hs => ?_, ?_⟩
    · rcases List.mem_append.mp hs with hs | hs
      · rcases List.mem_append.mp hs with hs | hs
        · exact hB.w1.sh s (List.mem_of_mem_take hs)
        · rw [List.mem_singleton] at hs; subst hs; exact bz_shd _
      · exact hB.w1.sh s (List.mem_of_mem_drop hs)
    · simp only [List.length_append, List.length_take, List.length_drop, List.length_singleton]
      omega
  have hEd : sD (B.1.take k) ++ D.str (bz (thr B.1 (k : Int))) :: sD (B.1.drop (k + 1)) = sD (B.1.take k ++ [bz (thr B.1 (k : Int))] ++ B.1.drop (k + 1)) := by simp [sD]
  have hz1 : (sD (B.1.take k)).length ≤ 240 := by rw [sD_length, List.length_take]; omega
  have hz2 : (sD (B.1.drop (k + 1))).length ≤ 240 := by rw [sD_length, List.length_drop]; omega
  have hElr := sp_lround hq (T0 := T0) (d + 8) _ hE.pos (by have := hE.le; omega)
  have c4 : cutD (sD (B.1.take k ++ [bz (thr B.1 (k : Int))] ++ B.1.drop (k + 1))) none (some ((lrnd (B.1.take k ++ [bz (thr B.1 (k : Int))] ++ B.1.drop (k + 1)) : Nat) : Int)) = sD (root (B.1.take k ++ [bz (thr B.1 (k : Int))] ++ B.1.drop (k + 1)) 0) := by
    have := lrnd_le hE.pos
    rw [cut_take (by omega) (by rw [sD_length]; omega), Int.toNat_natCast, ← take_lrnd hE.pos]
    simp [sD]
  have hEp := prim_root hE.pos 0
  have hEw : WOk (root (B.1.take k ++ [bz (thr B.1 (k : Int))] ++ B.1.drop (k + 1)) 0) := ⟨hEp.1, fun s m => hE.sh s (mk_mem hE.pos m), by have := lrnd_le hE.pos; have := hE.le; rw [root_length]; omega⟩
  generalize B.1.take k ++ [bz (thr B.1 (k : Int))] ++ B.1.drop (k + 1) = E at hE hEd hElr c4 hEp hEw
  have l1 : (B.1.take k).length + 1 ≤ 16777216 := by rw [List.length_take]; omega
  have l2 : (B.1.take k).length + (1 + (B.1.drop (k + 1)).length) ≤ 16777216 := by rw [List.length_take, List.length_drop]; omega
  have l3 : (B.1.take k).length + ((B.1.drop (k + 1)).length + 1) ≤ 16777216 := by rw [List.length_take, List.length_drop]; omega
  have l4 : (B.1.take k).length + 1 + (B.1.drop (k + 1)).length ≤ 16777216 := by rw [List.length_take, List.length_drop]; omega
  simp -implicitDefEqProofs only [List.length_take, List.length_drop] at l1 l2 l3 l4
  simp -implicitDefEqProofs [slR_lst, slR_olst, c1, c2, c3, len_lst, ix_bz', biR_intbl, cat_oo, cat_io, cat_ii, hz, ixR_lst, ixR_olst, hEd, hElr, c4, l1, l2, l3, l4]
  refine (sp_drawn hk hq h d _).imp ?_
  rintro _ ⟨n5, w, rfl, wp, ww⟩
  simp -implicitDefEqProofs [once, ixR_row1, cat_ii, cat_io, cat_oo, hz]
  exact ⟨n5, g, m / 8 % 30, m / 8 / 30 % 30, (root E 0, B.2), (p.2, p.1), p, (w, B.2), by rw [hBB]; rfl, ⟨hEw, hB.w2, hEp, hB.r2⟩, ⟨hp.w2, hp.w1, hp.r2, hp.r1⟩, hp, ⟨ww, hB.w2, wp, hB.r2⟩⟩
/-! ### the law's own questions -/
theorem tt_cl {p : List Str × List Str} (hp : POk p) : tc (tc (cl p).1) = (cl p).1 ∧ tc (tc (cl p).2) = (cl p).2 := ⟨tc_tc hp.w1.pos, tc_tc hp.w2.pos⟩
theorem ways_in {l : List Way} {g : Way} : wayS g ∈ wayL l ↔ g ∈ l := by
  unfold wayL
  rw [List.mem_map]
  constructor
  · rintro ⟨x, hx, e⟩
    have inj : ∀ a b : Way, wayS a = wayS b → a = b := by
      rintro ⟨a1, a2, a3⟩ ⟨b1, b2, b3⟩
      cases a1 <;> cases a2 <;> cases a3 <;> cases b1 <;> cases b2 <;> cases b3 <;> first | (intro _; rfl) | (intro q; exact absurd q (by decide +kernel))
    rw [inj x g e] at hx
    exact hx
  · intro h; exact ⟨g, h, rfl⟩
theorem sp_closed (hk : PK fds) (hc : PC fds T0) (d : Nat) (l : List Way) (hl : l.length ≤ 8) (hcl : ∀ x ∈ l, ∀ y ∈ l, beh x y ∈ l) : Wp (callN 40 fds T0 (d + 3) 41 [.im (.tup (sD (wayL l)))]) fun o => ∃ fs, o = .ret (.im (.bl true)) fs := by
  rw [callN_def hk.f41 (d + 2) _ rfl]
  simp -implicitDefEqProofs [Q_closed, itK, itR]
  refine loopR_wp (I := fun _ Γ => ∃ x y, Γ = [.im (.tup (sD (wayL l))), x, y] ∧ Fr x ∧ Fr y) ⟨_, _, rfl, .un, .un⟩ ?_ ?_
  · rintro k e Γ he ⟨x, y, rfl, fx, fy⟩
    unfold wayL sD at he
    rw [List.map_map, List.getElem?_map, Option.map_eq_some_iff] at he
    obtain ⟨g, hg, rfl⟩ := he
    have hgm := List.mem_of_getElem? hg
    rw [turnS_eq]
    simp -implicitDefEqProofs [stoK_fr fx, itK, itR]
    refine loopR_wp (I := fun _ Γ => ∃ y, Γ = [.im (.tup (sD (wayL l))), .im (.str (wayS g)), y] ∧ Fr y) ⟨_, rfl, fy⟩ ?_ ?_
    · rintro k2 e Γ he ⟨y2, rfl, fy2⟩
      unfold wayL sD at he
      rw [List.map_map, List.getElem?_map, Option.map_eq_some_iff] at he
      obtain ⟨g2, hg2, rfl⟩ := he
      have hgm2 := List.mem_of_getElem? hg2
      have hi := inR_sD (ra := .im (.tup (sD (wayL l)))) (s := wayS (beh g g2)) (w := wayL l) rfl (fun z q => by cases q)
      have hm : wayS (beh g g2) ∈ wayL l := ways_in.mpr (hcl g hgm g2 hgm2)
      rw [turnS_eq]
      simp -implicitDefEqProofs [stoK_fr fy2, sp_behind hc, cmpR, hi, hm]
      exact .im
    · rintro Γ ⟨y2, rfl, fy2⟩
      simp -implicitDefEqProofs
      exact ⟨_, _, ⟨rfl, rfl⟩, .im, fy2⟩
  · rintro Γ ⟨x, y, rfl, fx, fy⟩
    simp -implicitDefEqProofs
theorem sp_own (hk : PK fds) (h : PH fds T0) (hc : PC fds T0) (d : Nat) (p : List Str × List Str) (hp : POk p) : Wp (callN 40 fds T0 (d + 11) 40 [.im (clothD T0 p), .im (prtD p)]) fun o => ∃ fs, o = .ret (.im (.bl true)) fs := by
  obtain ⟨tt1, tt2⟩ := tt_cl hp
  have e1 := sp_between2 h hc d p p hp.w1 hp.w2 hp.r1 hp.r2 hp.w1 hp.w2
  have e2 := sp_waysdue hk (T0 := T0) (d + 6) p p hp.w1 hp.w2 hp.w1 hp.w2
  have hsz := found_size (t := tc) (p := cl p) tt1 tt2
  have hst := found_stay (t := tc) (cl p)
  have hcl := @found_closed _ _ tc (cl p) tt1 tt2
  generalize found tc (cl p) (cl p) = l at e1 e2 hsz hst hcl
  have hh : atI (sD (wayL l)) 0 = some (.str "stay") := by
    cases l with
    | nil => simp at hst
    | cons a l =>
      simp at hst
      subst hst
      exact atI_0 _ _
  have hlen : (l.length : Int) = 1 ∨ (l.length : Int) = 2 ∨ (l.length : Int) = 4 ∨ (l.length : Int) = 8 := by omega
  have hin : inR (.im (.int (l.length : Int))) (.ow (.lst [.int 1, .int 2, .int 4, .int 8])) = some true := by
    rw [inR_ints (l := [1, 2, 4, 8]) rfl]
    congr 1
    rw [decide_eq_true_iff]
    simp only [List.mem_cons, List.not_mem_nil, or_false]
    exact hlen
  have lenw : (wayL l).length = l.length := by unfold wayL; rw [List.length_map]
  have ll : biR .len [.im (.tup (sD (wayL l)))] = some (.im (.int (l.length : Int))) := by
    show some (R.im (.int ((sD (wayL l)).length : Int))) = _
    rw [sD_length, lenw]
  have cz := sp_closed hk hc (d + 7) l (by omega) (fun x hx y hy => hcl hx hy)
  obtain ⟨_, ce, fs, rfl⟩ := cz
  rw [callN_def hk.f40 (d + 10) _ rfl]
  simp -implicitDefEqProofs [Q_own_right, e1, e2, ll, cmpR, hin, hz, ixR_tup, hh, ce]
theorem cl_moved {p : List Str × List Str} (hp : POk p) (x y : Int) : cl (moved p.1 x, moved p.2 y) = cl p := by
  unfold cl
  have h1 := hp.w1.pos
  have h2 := hp.w2.pos
  have e1 : least (moved p.1 x) = least p.1 := ((least_iff h1 (by simpa using h1)).mpr ⟨by simp, x, rfl⟩).symm
  have e2 : least (moved p.2 y) = least p.2 := ((least_iff h2 (by simpa using h2)).mpr ⟨by simp, y, rfl⟩).symm
  rw [e1, e2]
theorem moved_pok {p : List Str × List Str} (hp : POk p) (x y : Int) : POk (moved p.1 x, moved p.2 y) := ⟨hp.w1.moved x, hp.w2.moved y, prim_moved hp.r1 x, prim_moved hp.r2 y⟩
/-- behind some others -/
def RtI (T0 : Tb) (n m : Int) (p : List Str × List Str) (g : Way) (qs : List (List Str × List Str)) (Γ : List Slot) : Prop := ∃ x7 x8 x9 x10, Γ = [pl n, pl m, .im (.tup (sD (wayL (found tc (cl p) (cl p))))), .im (clothD T0 p), .im (prtD p), .im (.str (wayS g)), .im (.lst (qs.map prtD)), x7, x8, x9, x10] ∧ Fr x7 ∧ Fr x8 ∧ Fr x9 ∧ Fr x10
theorem sp_right (hk : PK fds) (hq : PQ fds) (h : PH fds T0) (hc : PC fds T0) (d : Nat) (n m : Int) : Wp (callN 40 fds T0 (d + 12) 42 [pl n, pl m]) fun o => ∃ s1 s2, o = .ret (.im (.bl true)) [s1, s2] := by
  rw [callN_def hk.f42 (d + 11) _ rfl]
  simp -implicitDefEqProofs [Q_right, once, hz]
  refine (sp_parts hk hq h hc (d + 1) n m).imp ?_
  rintro _ ⟨n1, m1, p, rfl, r1, r2, w1, w2⟩
  have hp : POk p := ⟨w1, w2, r1, r2⟩
  obtain ⟨tt1, tt2⟩ := tt_cl hp
  simp -implicitDefEqProofs [once, hz]
  refine (sp_others hk hq h (d + 1) m1 p hp).imp ?_
  rintro _ ⟨m2, g, x, y, q1, q2, q3, q4, rfl, k1, k2, k3, k4⟩
  have k0 := moved_pok (byW_pok hp g) x y
  have hg0 : byW tc g (cl p) = cl (moved (byW turned g p).1 x, moved (byW turned g p).2 y) := by
    rw [cl_moved (byW_pok hp g), cl_byW hp.w1.pos hp.w2.pos]
  generalize (moved (byW turned g p).1 x, moved (byW turned g p).2 y) = q0 at k0 hg0
  have hown := sp_between2 h hc (d + 1) p p hp.w1 hp.w2 hp.r1 hp.r2 hp.w1 hp.w2
  have hlist : ([prtD q0, prtD q1, prtD q2, prtD q3, prtD q4] : List D) = [q0, q1, q2, q3, q4].map prtD := rfl
  rw [hlist]
  have hqs : ∀ q ∈ [q0, q1, q2, q3, q4], POk q := by
    intro q hq
    simp only [List.mem_cons, List.not_mem_nil, or_false] at hq
    rcases hq with rfl | rfl | rfl | rfl | rfl <;> assumption
  have hq0 : [q0, q1, q2, q3, q4][0]? = some q0 := rfl
  generalize [q0, q1, q2, q3, q4] = qs at hqs hq0
  have hfin := sp_own hk h hc d p hp
  obtain ⟨_, hf, fs, rfl⟩ := hfin
  simp -implicitDefEqProofs [once, hz, hown, itK, itR]
  refine loopR_wp (I := fun _ Γ => RtI T0 n1 m2 p g qs Γ) ⟨_, _, _, _, rfl, .un, .un, .un, .un⟩ ?_ ?_
  · rintro k e Γ he ⟨x7, x8, x9, x10, rfl, f7, f8, f9, f10⟩
    simp only [List.getElem?_map, List.getElem?_zipIdx, Option.map_eq_some_iff] at he
    obtain ⟨⟨a, i⟩, ⟨a', ⟨q, hqk, rfl⟩, e1⟩, rfl⟩ := he
    cases e1
    have hqm := hqs q (List.mem_of_getElem? hqk)
    obtain ⟨tq1, tq2⟩ := tt_cl hqm
    have c1 := sp_lcloth hk h hc (d + 3) q hqm.w1 hqm.w2 hqm.r1 hqm.r2
    have c2 := sp_between2 h hc (d + 1) p q hp.w1 hp.w2 hp.r1 hp.r2 hqm.w1 hqm.w2
    have c3 := sp_waysdue hk (T0 := T0) (d + 7) p q hp.w1 hp.w2 hqm.w1 hqm.w2
    have c4 := sp_between2 h hc (d + 1) q p hqm.w1 hqm.w2 hqm.r1 hqm.r2 hp.w1 hp.w2
    have hback := found_back (t := tc) (p := cl p) (q := cl q) tt1 tt2 tq1 tq2
    have hmany := found_many (t := tc) (p := cl p) (q := cl q) tt1 tt2
    have hk0 : k = 0 → g ∈ found tc (cl p) (cl q) := by
      intro z
      subst z
      rw [hq0] at hqk
      cases hqk
      rw [mem_found]
      exact hg0
    have hown' : RtI T0 n1 m2 p g qs = RtI T0 n1 m2 p g qs := rfl
    generalize hF : found tc (cl p) (cl q) = F at c2 c3 hback hmany hk0
    generalize found tc (cl q) (cl p) = F' at c4 hback
    have lw : ∀ l : List Way, biR .len [.im (.tup (sD (wayL l)))] = some (.im (.int (l.length : Int))) := fun l => by
      show some (R.im (.int ((sD (wayL l)).length : Int))) = _
      rw [sD_length]
      unfold wayL
      rw [List.length_map]
    have e0 : eqR (.im (.tup (sD (wayL F)))) (.im (.tup [])) = some (decide (F = [])) := by
      have := eqR_sD (wayL F) []
      rw [show (D.tup (sD [])) = .tup [] from rfl] at this
      rw [this]
      unfold wayL
      simp
    have hi := inR_sD (ra := .im (.tup (sD (wayL F)))) (s := wayS g) (w := wayL F) rfl (fun z q => by cases q)
    have hme : k = 0 → F.length = (found tc (cl p) (cl p)).length := fun z => hmany (List.ne_nil_of_mem (hk0 z))
    rw [turnS_eq]
    simp -implicitDefEqProofs [stoK_fr f7, stoK_fr f8, stoK_fr f9, stoK_fr f10, c1, c2, c3, c4, isiD, h.cls2, hc.kw0, lw, hback, cmpR, hi, ways_in, e0, hz]
    have R : RtI T0 n1 m2 p g qs [pl n1, pl m2, .im (.tup (sD (wayL (found tc (cl p) (cl p))))), .im (clothD T0 p), .im (prtD p), .im (.str (wayS g)), .im (.lst (qs.map prtD)), .im (.int (k : Int)), .im (prtD q), .im (clothD T0 q), .im (.tup (sD (wayL F)))] := ⟨_, _, _, _, rfl, .im, .im, .im, .im⟩
    have hl : F ≠ [] → (F.length : Int) = ((found tc (cl p) (cl p)).length : Int) := fun z => by rw [hmany z]
    refine ⟨fun z => ⟨fun _ => ⟨fun _ => ⟨fun _ => R, fun z2 => ⟨fun _ => R, hl z2⟩⟩, by rw [hme z]⟩, hk0 z⟩, fun z => ⟨fun _ => R, fun z2 => ⟨fun _ => R, hl z2⟩⟩⟩
  · rintro Γ ⟨x7, x8, x9, x10, rfl, f7, f8, f9, f10⟩
    simp -implicitDefEqProofs [hf]
theorem len_klst {ds : List D} : biR .len [.im (.klst ds)] = some (.im (.int ds.length)) := (rfl)
theorem biR_min2 {i j : Int} : biR .min2 [.im (.int i), .im (.int j)] = some (.im (.int (if j < i then j else i))) := (rfl)
theorem biR_max2 {i j : Int} : biR .max2 [.im (.int i), .im (.int j)] = some (.im (.int (if j > i then j else i))) := (rfl)
theorem sp_main (hk : PK fds) (hq : PQ fds) (h : PH fds T0) (hc : PC fds T0) (d : Nat) (ns : List Int) (hn : ns.length ≤ 63) : Wp (callN 40 fds T0 (d + 13) 43 [.im (.klst (ns.map D.int))]) fun o => ∃ fs, o = .ret (.im (.bl true)) fs := by
  rw [callN_def hk.f43 (d + 12) _ rfl]
  simp -implicitDefEqProofs [Q_main, len_klst, biR_min2, biR_max2, itK, itR]
  generalize hN : (if (1 : Int) < (if (6 : Int) < (ns.length : Int) then 6 else (ns.length : Int)) then (if (6 : Int) < (ns.length : Int) then 6 else (ns.length : Int)) else 1) = N
  have hN1 : 0 ≤ N ∧ N ≤ 6 := by subst hN; split <;> split <;> omega
  refine ⟨by omega, ?_⟩
  refine loopR_wp (I := fun _ Γ => ∃ x, Γ = [.im (.klst (ns.map D.int)), x] ∧ Fr x) ⟨_, rfl, .un⟩ ?_ ?_
  · rintro k e Γ he ⟨x, rfl, fx⟩
    obtain ⟨hkN, rfl⟩ := range_get he
    rw [turnS_eq]
    simp -implicitDefEqProofs [stoK_fr fx, once]
    refine (sp_pool hq (T0 := T0) (d + 11) ns k (by omega)).imp ?_
    rintro _ ⟨n, rfl⟩
    simp -implicitDefEqProofs [once]
    refine (sp_pool hq (T0 := T0) (d + 11) ns (k + 1) (by omega)).imp ?_
    rintro _ ⟨m, rfl⟩
    simp -implicitDefEqProofs [once]
    refine (sp_right hk hq h hc d n m).imp ?_
    rintro _ ⟨s1, s2, rfl⟩
    simp -implicitDefEqProofs [once]
    exact .im
  · rintro Γ ⟨x, rfl, fx⟩
    simp -implicitDefEqProofs
end
end LW
/-! printed by gen2.py: what the law's own top tells of the terms -/
namespace LW
open PySem PySem.Spec L2 DL
def top (i : Nat) : Stmt := PySem.Challenge.pw_stripelay_k37_ways_between_cloths.main.body.getD i (.Pass ⟨0, 0, 0, 0⟩)
abbrev s0 : Stmt := top 12
abbrev s1 : Stmt := top 15
abbrev s2 : Stmt := top 16
abbrev s3 : Stmt := top 21
abbrev s4 : Stmt := top 22
abbrev s5 : Stmt := top 23
abbrev s6 : Stmt := top 24
abbrev s7 : Stmt := top 25
abbrev s8 : Stmt := top 26
abbrev s9 : Stmt := top 27
abbrev s10 : Stmt := top 28
abbrev s11 : Stmt := top 30
abbrev s12 : Stmt := top 31
abbrev s13 : Stmt := top 32
abbrev s14 : Stmt := top 33
abbrev s15 : Stmt := top 34
abbrev s16 : Stmt := top 36
abbrev s17 : Stmt := top 37
abbrev s18 : Stmt := top 38
abbrev s19 : Stmt := top 39
abbrev s20 : Stmt := top 41
abbrev s21 : Stmt := top 43
abbrev s22 : Stmt := top 44
abbrev s23 : Stmt := top 45
abbrev s24 : Stmt := top 46
abbrev s25 : Stmt := top 47
abbrev s26 : Stmt := top 48
abbrev s27 : Stmt := top 49
abbrev s28 : Stmt := top 50
abbrev s29 : Stmt := top 51
abbrev s30 : Stmt := top 52
abbrev s31 : Stmt := top 53
abbrev s32 : Stmt := top 54
abbrev s33 : Stmt := top 55
abbrev s34 : Stmt := top 56
abbrev s35 : Stmt := top 57
abbrev s36 : Stmt := top 58
abbrev s37 : Stmt := top 59
abbrev s38 : Stmt := top 60
abbrev s39 : Stmt := top 61
abbrev s40 : Stmt := top 62
abbrev s41 : Stmt := top 63
abbrev s42 : Stmt := top 64
abbrev s43 : Stmt := top 65
abbrev s44 : Stmt := inClass (top 5) 0
abbrev s45 : Stmt := inClass (top 7) 0
abbrev s46 : Stmt := inClass (top 8) 0
abbrev s47 : Stmt := inClass (top 9) 0
abbrev s48 : Stmt := inClass (top 13) 0
abbrev s49 : Stmt := inClass (top 13) 1
abbrev s50 : Stmt := inClass (top 13) 7
abbrev s51 : Stmt := inClass (top 40) 0
abbrev s52 : Stmt := inClass (top 40) 2
abbrev s53 : Stmt := inClass (top 40) 5
abbrev s54 : Stmt := inClass (top 40) 9
abbrev s55 : Stmt := inClass (top 40) 10
def GG : GI where
  dn := [(0, ("check_way" : Str), 1), (1, ("behind" : Str), 2), (2, ("ways_between" : Str), 2), (3, ("is_whole" : Str), 1), (4, ("is_between" : Str), 3), (5, ("is_word" : Str), 2), (6, ("is_shade" : Str), 1), (7, ("is_stripe" : Str), 1), (8, ("check_stripes" : Str), 1), (9, ("threads_of" : Str), 1), (10, ("merged" : Str), 1), (11, ("run_word" : Str), 1), (12, ("pivot_word" : Str), 1), (13, ("fold_word" : Str), 1), (14, ("left_word" : Str), 1), (15, ("right_word" : Str), 1), (16, ("is_manner" : Str), 1), (17, ("check_spot" : Str), 1), (18, ("least_round" : Str), 1), (19, ("least_begun" : Str), 1), (20, ("row_of_threads" : Str), 1), (21, ("_law_pool" : Str), 2), (22, ("_law_take" : Str), 2), (23, ("_law_some_shades" : Str), 2), (24, ("_law_drawn_stripes" : Str), 4), (25, ("_law_threads" : Str), 1), (26, ("_law_word" : Str), 2), (27, ("_law_least_round" : Str), 1), (28, ("_law_due" : Str), 3), (29, ("_law_drawn_row" : Str), 1), (30, ("_law_made" : Str), 1), (31, ("_law_least" : Str), 1), (32, ("_law_turned" : Str), 1), (33, ("_law_by_way" : Str), 3), (34, ("_law_ways" : Str), 0), (35, ("_law_moved" : Str), 2), (36, ("_law_ways_due" : Str), 2), (37, ("_law_cloth" : Str), 1), (38, ("_law_parts" : Str), 2), (39, ("_law_others" : Str), 2), (40, ("_law_own_right" : Str), 2), (41, ("_law_closed" : Str), 1), (42, ("_law_right" : Str), 2), (43, ("law" : Str), 1)]
  cn := [(0, "LETTERS"), (1, "MOST"), (2, "BIG")]
  cl := [(0, ("Cloth" : Str), 3), (1, ("Row" : Str), 4), (2, ("Row" : Str), 4)]
  mn := [(0, ("__eq__" : Str), 2), (1, ("turned" : Str), 2), (2, ("moved" : Str), 2), (3, ("turned" : Str), 1), (4, ("__eq__" : Str), 2), (5, ("thread" : Str), 2)]
  fl := [(0, ("warp" : Str)), (0, ("weft" : Str)), (1, ("kept" : Str))]
  df := [(0, 0), (1, 0), (2, 2)]
  ic := [0, 1]
  kn := [(0, "WAYS"), (1, "MANNERS")]
  fn := [(11, 1), (12, 1), (13, 1), (14, 1), (15, 1)]
  kw := [(0, ("ways_between" : Str), ["other", "cloth"])]
def FF : Nat → Option FD := lk [(0, P_check_way), (1, P_behind), (2, P_ways_between), (3, P_is_whole), (4, P_is_between), (5, P_is_word), (6, P_is_shade), (7, P_is_stripe), (8, P_check_stripes), (9, P_threads_of), (10, P_merged), (11, P_run_word), (12, P_pivot_word), (13, P_fold_word), (14, P_left_word), (15, P_right_word), (16, P_is_manner), (17, P_check_spot), (18, P_least_round), (19, P_least_begun), (20, P_row_of_threads), (21, Q_pool), (22, Q_take), (23, Q_some_shades), (24, Q_drawn_stripes), (25, Q_threads), (26, Q_word), (27, Q_least_round), (28, Q_due), (29, Q_drawn_row), (30, Q_made), (31, Q_least), (32, Q_turned), (33, Q_by_way), (34, Q_ways), (35, Q_moved), (36, Q_ways_due), (37, Q_cloth), (38, Q_parts), (39, Q_others), (40, Q_own_right), (41, Q_closed), (42, Q_right), (43, Q_main), (44, P_NoStripes___init__), (45, P_TooLong___init__), (46, P_NoSpot___init__), (47, P_NoWay___init__), (48, P_Cloth___init__), (49, P_Cloth___eq__), (50, P_Cloth_turned), (51, P_Row___init__), (52, P_Row___eq__), (53, P_Row_thread), (54, P_Row_moved), (55, P_Row_turned)]
theorem c0 : chks (chkS GG P_check_way.N 40 (defScope s0) 40) P_check_way.body (defBody s0) = true := by decide +kernel
theorem h0 : FnScope P_check_way.N ["thing"] (defScope s0) := ⟨rfl, rfl, rfl, by decide +kernel, rfl, by decide +kernel, by decide +kernel⟩
theorem c1 : chks (chkS GG P_behind.N 40 (defScope s1) 40) P_behind.body (defBody s1) = true := by decide +kernel
theorem h1 : FnScope P_behind.N ["way", "other"] (defScope s1) := ⟨rfl, rfl, rfl, by decide +kernel, rfl, by decide +kernel, by decide +kernel⟩
theorem c2 : chks (chkS GG P_ways_between.N 40 (defScope s2) 40) P_ways_between.body (defBody s2) = true := by decide +kernel
theorem h2 : FnScope P_ways_between.N ["cloth", "other"] (defScope s2) := ⟨rfl, rfl, rfl, by decide +kernel, rfl, by decide +kernel, by decide +kernel⟩
theorem c3 : chks (chkS GG P_is_whole.N 40 (defScope s3) 40) P_is_whole.body (defBody s3) = true := by decide +kernel
theorem h3 : FnScope P_is_whole.N ["x"] (defScope s3) := ⟨rfl, rfl, rfl, by decide +kernel, rfl, by decide +kernel, by decide +kernel⟩
theorem c4 : chks (chkS GG P_is_between.N 40 (defScope s4) 40) P_is_between.body (defBody s4) = true := by decide +kernel
theorem h4 : FnScope P_is_between.N ["x", "low", "high"] (defScope s4) := ⟨rfl, rfl, rfl, by decide +kernel, rfl, by decide +kernel, by decide +kernel⟩
theorem c5 : chks (chkS GG P_is_word.N 40 (defScope s5) 40) P_is_word.body (defBody s5) = true := by decide +kernel
theorem h5 : FnScope P_is_word.N ["thing", "most"] (defScope s5) := ⟨rfl, rfl, rfl, by decide +kernel, rfl, by decide +kernel, by decide +kernel⟩
theorem c6 : chks (chkS GG P_is_shade.N 40 (defScope s6) 40) P_is_shade.body (defBody s6) = true := by decide +kernel
theorem h6 : FnScope P_is_shade.N ["thing"] (defScope s6) := ⟨rfl, rfl, rfl, by decide +kernel, rfl, by decide +kernel, by decide +kernel⟩
theorem c7 : chks (chkS GG P_is_stripe.N 40 (defScope s7) 40) P_is_stripe.body (defBody s7) = true := by decide +kernel
theorem h7 : FnScope P_is_stripe.N ["thing"] (defScope s7) := ⟨rfl, rfl, rfl, by decide +kernel, rfl, by decide +kernel, by decide +kernel⟩
theorem c8 : chks (chkS GG P_check_stripes.N 40 (defScope s8) 40) P_check_stripes.body (defBody s8) = true := by decide +kernel
theorem h8 : FnScope P_check_stripes.N ["thing"] (defScope s8) := ⟨rfl, rfl, rfl, by decide +kernel, rfl, by decide +kernel, by decide +kernel⟩
theorem c9 : chks (chkS GG P_threads_of.N 40 (defScope s9) 40) P_threads_of.body (defBody s9) = true := by decide +kernel
theorem h9 : FnScope P_threads_of.N ["stripes"] (defScope s9) := ⟨rfl, rfl, rfl, by decide +kernel, rfl, by decide +kernel, by decide +kernel⟩
theorem c10 : chks (chkS GG P_merged.N 40 (defScope s10) 40) P_merged.body (defBody s10) = true := by decide +kernel
theorem h10 : FnScope P_merged.N ["threads"] (defScope s10) := ⟨rfl, rfl, rfl, by decide +kernel, rfl, by decide +kernel, by decide +kernel⟩
theorem c11 : chks (chkS GG P_run_word.N 40 (defScope s11) 40) P_run_word.body (defBody s11) = true := by decide +kernel
theorem h11 : FnScope P_run_word.N ["threads"] (defScope s11) := ⟨rfl, rfl, rfl, by decide +kernel, rfl, by decide +kernel, by decide +kernel⟩
theorem c12 : chks (chkS GG P_pivot_word.N 40 (defScope s12) 40) P_pivot_word.body (defBody s12) = true := by decide +kernel
theorem h12 : FnScope P_pivot_word.N ["threads"] (defScope s12) := ⟨rfl, rfl, rfl, by decide +kernel, rfl, by decide +kernel, by decide +kernel⟩
theorem c13 : chks (chkS GG P_fold_word.N 40 (defScope s13) 40) P_fold_word.body (defBody s13) = true := by decide +kernel
theorem h13 : FnScope P_fold_word.N ["threads"] (defScope s13) := ⟨rfl, rfl, rfl, by decide +kernel, rfl, by decide +kernel, by decide +kernel⟩
theorem c14 : chks (chkS GG P_left_word.N 40 (defScope s14) 40) P_left_word.body (defBody s14) = true := by decide +kernel
theorem h14 : FnScope P_left_word.N ["threads"] (defScope s14) := ⟨rfl, rfl, rfl, by decide +kernel, rfl, by decide +kernel, by decide +kernel⟩
theorem c15 : chks (chkS GG P_right_word.N 40 (defScope s15) 40) P_right_word.body (defBody s15) = true := by decide +kernel
theorem h15 : FnScope P_right_word.N ["threads"] (defScope s15) := ⟨rfl, rfl, rfl, by decide +kernel, rfl, by decide +kernel, by decide +kernel⟩
theorem c16 : chks (chkS GG P_is_manner.N 40 (defScope s16) 40) P_is_manner.body (defBody s16) = true := by decide +kernel
theorem h16 : FnScope P_is_manner.N ["thing"] (defScope s16) := ⟨rfl, rfl, rfl, by decide +kernel, rfl, by decide +kernel, by decide +kernel⟩
theorem c17 : chks (chkS GG P_check_spot.N 40 (defScope s17) 40) P_check_spot.body (defBody s17) = true := by decide +kernel
theorem h17 : FnScope P_check_spot.N ["thing"] (defScope s17) := ⟨rfl, rfl, rfl, by decide +kernel, rfl, by decide +kernel, by decide +kernel⟩
theorem c18 : chks (chkS GG P_least_round.N 40 (defScope s18) 40) P_least_round.body (defBody s18) = true := by decide +kernel
theorem h18 : FnScope P_least_round.N ["threads"] (defScope s18) := ⟨rfl, rfl, rfl, by decide +kernel, rfl, by decide +kernel, by decide +kernel⟩
theorem c19 : chks (chkS GG P_least_begun.N 40 (defScope s19) 40) P_least_begun.body (defBody s19) = true := by decide +kernel
theorem h19 : FnScope P_least_begun.N ["threads"] (defScope s19) := ⟨rfl, rfl, rfl, by decide +kernel, rfl, by decide +kernel, by decide +kernel⟩
theorem c20 : chks (chkS GG P_row_of_threads.N 40 (defScope s20) 40) P_row_of_threads.body (defBody s20) = true := by decide +kernel
theorem h20 : FnScope P_row_of_threads.N ["threads"] (defScope s20) := ⟨rfl, rfl, rfl, by decide +kernel, rfl, by decide +kernel, by decide +kernel⟩
theorem c21 : chks (chkS GG Q_pool.N 40 (defScope s21) 40) Q_pool.body (defBody s21) = true := by decide +kernel
theorem h21 : FnScope Q_pool.N ["_law_script", "_law_k"] (defScope s21) := ⟨rfl, rfl, rfl, by decide +kernel, rfl, by decide +kernel, by decide +kernel⟩
theorem c22 : chks (chkS GG Q_take.N 40 (defScope s22) 40) Q_take.body (defBody s22) = true := by decide +kernel
theorem h22 : FnScope Q_take.N ["_law_pool_here", "_law_many"] (defScope s22) := ⟨rfl, rfl, rfl, by decide +kernel, rfl, by decide +kernel, by decide +kernel⟩
theorem c23 : chks (chkS GG Q_some_shades.N 40 (defScope s23) 40) Q_some_shades.body (defBody s23) = true := by decide +kernel
theorem h23 : FnScope Q_some_shades.N ["_law_pool_here", "_law_many"] (defScope s23) := ⟨rfl, rfl, rfl, by decide +kernel, rfl, by decide +kernel, by decide +kernel⟩
theorem c24 : chks (chkS GG Q_drawn_stripes.N 40 (defScope s24) 40) Q_drawn_stripes.body (defBody s24) = true := by decide +kernel
theorem h24 : FnScope Q_drawn_stripes.N ["_law_pool_here", "_law_shades", "_law_most", "_law_wide"] (defScope s24) := ⟨rfl, rfl, rfl, by decide +kernel, rfl, by decide +kernel, by decide +kernel⟩
theorem c25 : chks (chkS GG Q_threads.N 40 (defScope s25) 40) Q_threads.body (defBody s25) = true := by decide +kernel
theorem h25 : FnScope Q_threads.N ["_law_stripes"] (defScope s25) := ⟨rfl, rfl, rfl, by decide +kernel, rfl, by decide +kernel, by decide +kernel⟩
theorem c26 : chks (chkS GG Q_word.N 40 (defScope s26) 40) Q_word.body (defBody s26) = true := by decide +kernel
theorem h26 : FnScope Q_word.N ["_law_words", "_law_manner"] (defScope s26) := ⟨rfl, rfl, rfl, by decide +kernel, rfl, by decide +kernel, by decide +kernel⟩
theorem c27 : chks (chkS GG Q_least_round.N 40 (defScope s27) 40) Q_least_round.body (defBody s27) = true := by decide +kernel
theorem h27 : FnScope Q_least_round.N ["_law_words"] (defScope s27) := ⟨rfl, rfl, rfl, by decide +kernel, rfl, by decide +kernel, by decide +kernel⟩
theorem c28 : chks (chkS GG Q_due.N 40 (defScope s28) 40) Q_due.body (defBody s28) = true := by decide +kernel
theorem h28 : FnScope Q_due.N ["_law_stripes", "_law_manner", "_law_start"] (defScope s28) := ⟨rfl, rfl, rfl, by decide +kernel, rfl, by decide +kernel, by decide +kernel⟩
theorem c29 : chks (chkS GG Q_drawn_row.N 40 (defScope s29) 40) Q_drawn_row.body (defBody s29) = true := by decide +kernel
theorem h29 : FnScope Q_drawn_row.N ["_law_pool_here"] (defScope s29) := ⟨rfl, rfl, rfl, by decide +kernel, rfl, by decide +kernel, by decide +kernel⟩
theorem c30 : chks (chkS GG Q_made.N 40 (defScope s30) 40) Q_made.body (defBody s30) = true := by decide +kernel
theorem h30 : FnScope Q_made.N ["_law_words"] (defScope s30) := ⟨rfl, rfl, rfl, by decide +kernel, rfl, by decide +kernel, by decide +kernel⟩
theorem c31 : chks (chkS GG Q_least.N 40 (defScope s31) 40) Q_least.body (defBody s31) = true := by decide +kernel
theorem h31 : FnScope Q_least.N ["_law_words"] (defScope s31) := ⟨rfl, rfl, rfl, by decide +kernel, rfl, by decide +kernel, by decide +kernel⟩
theorem c32 : chks (chkS GG Q_turned.N 40 (defScope s32) 40) Q_turned.body (defBody s32) = true := by decide +kernel
theorem h32 : FnScope Q_turned.N ["_law_words"] (defScope s32) := ⟨rfl, rfl, rfl, by decide +kernel, rfl, by decide +kernel, by decide +kernel⟩
theorem c33 : chks (chkS GG Q_by_way.N 40 (defScope s33) 40) Q_by_way.body (defBody s33) = true := by decide +kernel
theorem h33 : FnScope Q_by_way.N ["_law_warp", "_law_weft", "_law_way"] (defScope s33) := ⟨rfl, rfl, rfl, by decide +kernel, rfl, by decide +kernel, by decide +kernel⟩
theorem c34 : chks (chkS GG Q_ways.N 40 (defScope s34) 40) Q_ways.body (defBody s34) = true := by decide +kernel
theorem h34 : FnScope Q_ways.N [] (defScope s34) := ⟨rfl, rfl, rfl, by decide +kernel, rfl, by decide +kernel, by decide +kernel⟩
theorem c35 : chks (chkS GG Q_moved.N 40 (defScope s35) 40) Q_moved.body (defBody s35) = true := by decide +kernel
theorem h35 : FnScope Q_moved.N ["_law_words", "_law_by"] (defScope s35) := ⟨rfl, rfl, rfl, by decide +kernel, rfl, by decide +kernel, by decide +kernel⟩
theorem c36 : chks (chkS GG Q_ways_due.N 40 (defScope s36) 40) Q_ways_due.body (defBody s36) = true := by decide +kernel
theorem h36 : FnScope Q_ways_due.N ["_law_one", "_law_second"] (defScope s36) := ⟨rfl, rfl, rfl, by decide +kernel, rfl, by decide +kernel, by decide +kernel⟩
theorem c37 : chks (chkS GG Q_cloth.N 40 (defScope s37) 40) Q_cloth.body (defBody s37) = true := by decide +kernel
theorem h37 : FnScope Q_cloth.N ["_law_parts_here"] (defScope s37) := ⟨rfl, rfl, rfl, by decide +kernel, rfl, by decide +kernel, by decide +kernel⟩
theorem c38 : chks (chkS GG Q_parts.N 40 (defScope s38) 40) Q_parts.body (defBody s38) = true := by decide +kernel
theorem h38 : FnScope Q_parts.N ["_law_pool_here", "_law_more"] (defScope s38) := ⟨rfl, rfl, rfl, by decide +kernel, rfl, by decide +kernel, by decide +kernel⟩
theorem c39 : chks (chkS GG Q_others.N 40 (defScope s39) 40) Q_others.body (defBody s39) = true := by decide +kernel
theorem h39 : FnScope Q_others.N ["_law_pool_here", "_law_parts_here"] (defScope s39) := ⟨rfl, rfl, rfl, by decide +kernel, rfl, by decide +kernel, by decide +kernel⟩
theorem c40 : chks (chkS GG Q_own_right.N 40 (defScope s40) 40) Q_own_right.body (defBody s40) = true := by decide +kernel
theorem h40 : FnScope Q_own_right.N ["_law_woven", "_law_parts_here"] (defScope s40) := ⟨rfl, rfl, rfl, by decide +kernel, rfl, by decide +kernel, by decide +kernel⟩
theorem c41 : chks (chkS GG Q_closed.N 40 (defScope s41) 40) Q_closed.body (defBody s41) = true := by decide +kernel
theorem h41 : FnScope Q_closed.N ["_law_own"] (defScope s41) := ⟨rfl, rfl, rfl, by decide +kernel, rfl, by decide +kernel, by decide +kernel⟩
theorem c42 : chks (chkS GG Q_right.N 40 (defScope s42) 40) Q_right.body (defBody s42) = true := by decide +kernel
theorem h42 : FnScope Q_right.N ["_law_pool_here", "_law_more"] (defScope s42) := ⟨rfl, rfl, rfl, by decide +kernel, rfl, by decide +kernel, by decide +kernel⟩
theorem c43 : chks (chkS GG Q_main.N 40 (defScope s43) 40) Q_main.body (defBody s43) = true := by decide +kernel
theorem h43 : FnScope Q_main.N ["_law_script"] (defScope s43) := ⟨rfl, rfl, rfl, by decide +kernel, rfl, by decide +kernel, by decide +kernel⟩
theorem c44 : chks (chkS GG P_NoStripes___init__.N 40 (defScope s44) 40) P_NoStripes___init__.body (defBody s44) = true := by decide +kernel
theorem h44 : FnScope P_NoStripes___init__.N ["self", "number"] (defScope s44) := ⟨rfl, rfl, rfl, by decide +kernel, rfl, by decide +kernel, by decide +kernel⟩
theorem c45 : chks (chkS GG P_TooLong___init__.N 40 (defScope s45) 40) P_TooLong___init__.body (defBody s45) = true := by decide +kernel
theorem h45 : FnScope P_TooLong___init__.N ["self", "long"] (defScope s45) := ⟨rfl, rfl, rfl, by decide +kernel, rfl, by decide +kernel, by decide +kernel⟩
theorem c46 : chks (chkS GG P_NoSpot___init__.N 40 (defScope s46) 40) P_NoSpot___init__.body (defBody s46) = true := by decide +kernel
theorem h46 : FnScope P_NoSpot___init__.N ["self", "spot"] (defScope s46) := ⟨rfl, rfl, rfl, by decide +kernel, rfl, by decide +kernel, by decide +kernel⟩
theorem c47 : chks (chkS GG P_NoWay___init__.N 40 (defScope s47) 40) P_NoWay___init__.body (defBody s47) = true := by decide +kernel
theorem h47 : FnScope P_NoWay___init__.N ["self", "way"] (defScope s47) := ⟨rfl, rfl, rfl, by decide +kernel, rfl, by decide +kernel, by decide +kernel⟩
theorem c48 : chks (chkS GG P_Cloth___init__.N 40 (defScope s48) 40) P_Cloth___init__.body (defBody s48) = true := by decide +kernel
theorem h48 : FnScope P_Cloth___init__.N ["self", "warp", "weft"] (defScope s48) := ⟨rfl, rfl, rfl, by decide +kernel, rfl, by decide +kernel, by decide +kernel⟩
theorem c49 : chks (chkS GG P_Cloth___eq__.N 40 (defScope s49) 40) P_Cloth___eq__.body (defBody s49) = true := by decide +kernel
theorem h49 : FnScope P_Cloth___eq__.N ["self", "other"] (defScope s49) := ⟨rfl, rfl, rfl, by decide +kernel, rfl, by decide +kernel, by decide +kernel⟩
theorem c50 : chks (chkS GG P_Cloth_turned.N 40 (defScope s50) 40) P_Cloth_turned.body (defBody s50) = true := by decide +kernel
theorem h50 : FnScope P_Cloth_turned.N ["self", "way"] (defScope s50) := ⟨rfl, rfl, rfl, by decide +kernel, rfl, by decide +kernel, by decide +kernel⟩
theorem c51 : chks (chkS GG P_Row___init__.N 40 (defScope s51) 40) P_Row___init__.body (defBody s51) = true := by decide +kernel
theorem h51 : FnScope P_Row___init__.N ["self", "stripes", "manner", "start"] (defScope s51) := ⟨rfl, rfl, rfl, by decide +kernel, rfl, by decide +kernel, by decide +kernel⟩
theorem c52 : chks (chkS GG P_Row___eq__.N 40 (defScope s52) 40) P_Row___eq__.body (defBody s52) = true := by decide +kernel
theorem h52 : FnScope P_Row___eq__.N ["self", "other"] (defScope s52) := ⟨rfl, rfl, rfl, by decide +kernel, rfl, by decide +kernel, by decide +kernel⟩
theorem c53 : chks (chkS GG P_Row_thread.N 40 (defScope s53) 40) P_Row_thread.body (defBody s53) = true := by decide +kernel
theorem h53 : FnScope P_Row_thread.N ["self", "spot"] (defScope s53) := ⟨rfl, rfl, rfl, by decide +kernel, rfl, by decide +kernel, by decide +kernel⟩
theorem c54 : chks (chkS GG P_Row_moved.N 40 (defScope s54) 40) P_Row_moved.body (defBody s54) = true := by decide +kernel
theorem h54 : FnScope P_Row_moved.N ["self", "by"] (defScope s54) := ⟨rfl, rfl, rfl, by decide +kernel, rfl, by decide +kernel, by decide +kernel⟩
theorem c55 : chks (chkS GG P_Row_turned.N 40 (defScope s55) 40) P_Row_turned.body (defBody s55) = true := by decide +kernel
theorem h55 : FnScope P_Row_turned.N ["self"] (defScope s55) := ⟨rfl, rfl, rfl, by decide +kernel, rfl, by decide +kernel, by decide +kernel⟩
section
variable (cs ks fs : Nat → Addr)
def TT : Tb where
  call := fun _ _ => none
  con := fun j => (lk ([(0, (.str "abcdefghijklmnopqrstuvwxyz")), (1, (.int 240)), (2, (.int 1000000000000000000000000000000))] : List (Nat × D)) j).getD .non
  cls := fun c => cs ((lk ([(0, 0), (1, 1), (2, 1)] : List (Nat × Nat)) c).getD 0)
  full := fun c => (lk ([(0, 2), (1, 1), (2, 1)] : List (Nat × Nat)) c).getD 0
  meth := fun q => (lk ([(0, 0, 49), (1, 0, 50), (2, 1, 54), (3, 1, 55), (4, 1, 52), (5, 1, 53)] : List (Nat × (Nat × Nat))) q).getD (0, 0)
  mnm := fun q => (lk ([(0, "__eq__"), (1, "turned"), (2, "moved"), (3, "turned"), (4, "__eq__"), (5, "thread")] : List (Nat × Str)) q).getD ""
  init := fun c => (lk ([(0, 48, []), (1, 51, []), (2, 51, [(.str "run"), (.int 0)])] : List (Nat × (Nat × List D))) c).getD (0, [])
  kd := fun j => (ks j, (lk ([(0, [("stay", (.tup [(.bl false), (.bl false), (.bl false)])), ("mirror", (.tup [(.bl false), (.bl true), (.bl false)])), ("flip", (.tup [(.bl false), (.bl false), (.bl true)])), ("half", (.tup [(.bl false), (.bl true), (.bl true)])), ("swap", (.tup [(.bl true), (.bl false), (.bl false)])), ("right", (.tup [(.bl true), (.bl true), (.bl false)])), ("left", (.tup [(.bl true), (.bl false), (.bl true)])), ("cross", (.tup [(.bl true), (.bl true), (.bl true)]))]), (1, [("run", .ref (fs 11)), ("pivot", .ref (fs 12)), ("fold", .ref (fs 13)), ("left", .ref (fs 14)), ("right", .ref (fs 15))])] : List (Nat × List (Str × D))) j).getD [])
  fns := [11, 12, 13, 14, 15]
  adr := fs
  kw := fun q => (lk ([(0, 2, [1, 0])] : List (Nat × (Nat × List Nat))) q).getD (0, [])
/-- the instances of a class with all its fields -/
def io (C : Addr) (n : Nat) : Prop := (C = cs 0 ∧ n = 2) ∨ (C = cs 1 ∧ n = 1)
end
theorem kn0 (cs ks fs : Nat → Addr) : (((TT cs ks fs).kd 0).2.map (·.1)).Nodup := (show (["stay", "mirror", "flip", "half", "swap", "right", "left", "cross"] : List Str).Nodup by decide +kernel)
theorem kn1 (cs ks fs : Nat → Addr) : (((TT cs ks fs).kd 1).2.map (·.1)).Nodup := (show (["run", "pivot", "fold", "left", "right"] : List Str).Nodup by decide +kernel)
theorem gf {K : PySem.W.Frag} {w : World} {mg : Str → Option Value} {h : Heap} {C0 C1 D0 D1 F11 F12 F13 F14 F15 : Addr} (X : K.In h) (N : h.Ns mainGlobals mg)
    (kc0 : PySem.W.nsIn K mainGlobals "Cloth" = some (some (.ref C0)) ∧ PySem.W.makesIn K C0 = true ∧ PySem.W.keepIn K (.ref C0) = true)
    (ki0 : IsC K C0)
    (kc1 : PySem.W.nsIn K mainGlobals "Row" = some (some (.ref C1)) ∧ PySem.W.makesIn K C1 = true ∧ PySem.W.keepIn K (.ref C1) = true)
    (ki1 : IsC K C1)
    (g0 : ∃ f, PySem.W.nsIn K mainGlobals "check_way" = some (some (.ref f)) ∧ FnF K "check_way" "check_way" s0 f)
    (g1 : ∃ f, PySem.W.nsIn K mainGlobals "behind" = some (some (.ref f)) ∧ FnF K "behind" "behind" s1 f)
    (g2 : ∃ f, PySem.W.nsIn K mainGlobals "ways_between" = some (some (.ref f)) ∧ FnF K "ways_between" "ways_between" s2 f)
    (g3 : ∃ f, PySem.W.nsIn K mainGlobals "is_whole" = some (some (.ref f)) ∧ FnF K "is_whole" "is_whole" s3 f)
    (g4 : ∃ f, PySem.W.nsIn K mainGlobals "is_between" = some (some (.ref f)) ∧ FnF K "is_between" "is_between" s4 f)
    (g5 : ∃ f, PySem.W.nsIn K mainGlobals "is_word" = some (some (.ref f)) ∧ FnF K "is_word" "is_word" s5 f)
    (g6 : ∃ f, PySem.W.nsIn K mainGlobals "is_shade" = some (some (.ref f)) ∧ FnF K "is_shade" "is_shade" s6 f)
    (g7 : ∃ f, PySem.W.nsIn K mainGlobals "is_stripe" = some (some (.ref f)) ∧ FnF K "is_stripe" "is_stripe" s7 f)
    (g8 : ∃ f, PySem.W.nsIn K mainGlobals "check_stripes" = some (some (.ref f)) ∧ FnF K "check_stripes" "check_stripes" s8 f)
    (g9 : ∃ f, PySem.W.nsIn K mainGlobals "threads_of" = some (some (.ref f)) ∧ FnF K "threads_of" "threads_of" s9 f)
    (g10 : ∃ f, PySem.W.nsIn K mainGlobals "merged" = some (some (.ref f)) ∧ FnF K "merged" "merged" s10 f)
    (g11 : PySem.W.nsIn K mainGlobals "run_word" = some (some (.ref F11)) ∧ FnF K "run_word" "run_word" s11 F11)
    (g12 : PySem.W.nsIn K mainGlobals "pivot_word" = some (some (.ref F12)) ∧ FnF K "pivot_word" "pivot_word" s12 F12)
    (g13 : PySem.W.nsIn K mainGlobals "fold_word" = some (some (.ref F13)) ∧ FnF K "fold_word" "fold_word" s13 F13)
    (g14 : PySem.W.nsIn K mainGlobals "left_word" = some (some (.ref F14)) ∧ FnF K "left_word" "left_word" s14 F14)
    (g15 : PySem.W.nsIn K mainGlobals "right_word" = some (some (.ref F15)) ∧ FnF K "right_word" "right_word" s15 F15)
    (g16 : ∃ f, PySem.W.nsIn K mainGlobals "is_manner" = some (some (.ref f)) ∧ FnF K "is_manner" "is_manner" s16 f)
    (g17 : ∃ f, PySem.W.nsIn K mainGlobals "check_spot" = some (some (.ref f)) ∧ FnF K "check_spot" "check_spot" s17 f)
    (g18 : ∃ f, PySem.W.nsIn K mainGlobals "least_round" = some (some (.ref f)) ∧ FnF K "least_round" "least_round" s18 f)
    (g19 : ∃ f, PySem.W.nsIn K mainGlobals "least_begun" = some (some (.ref f)) ∧ FnF K "least_begun" "least_begun" s19 f)
    (g20 : ∃ f, PySem.W.nsIn K mainGlobals "row_of_threads" = some (some (.ref f)) ∧ FnF K "row_of_threads" "row_of_threads" s20 f)
    (g21 : ∃ f, PySem.W.nsIn K mainGlobals "_law_pool" = some (some (.ref f)) ∧ FnF K "_law_pool" "_law_pool" s21 f)
    (g22 : ∃ f, PySem.W.nsIn K mainGlobals "_law_take" = some (some (.ref f)) ∧ FnF K "_law_take" "_law_take" s22 f)
    (g23 : ∃ f, PySem.W.nsIn K mainGlobals "_law_some_shades" = some (some (.ref f)) ∧ FnF K "_law_some_shades" "_law_some_shades" s23 f)
    (g24 : ∃ f, PySem.W.nsIn K mainGlobals "_law_drawn_stripes" = some (some (.ref f)) ∧ FnF K "_law_drawn_stripes" "_law_drawn_stripes" s24 f)
    (g25 : ∃ f, PySem.W.nsIn K mainGlobals "_law_threads" = some (some (.ref f)) ∧ FnF K "_law_threads" "_law_threads" s25 f)
    (g26 : ∃ f, PySem.W.nsIn K mainGlobals "_law_word" = some (some (.ref f)) ∧ FnF K "_law_word" "_law_word" s26 f)
    (g27 : ∃ f, PySem.W.nsIn K mainGlobals "_law_least_round" = some (some (.ref f)) ∧ FnF K "_law_least_round" "_law_least_round" s27 f)
    (g28 : ∃ f, PySem.W.nsIn K mainGlobals "_law_due" = some (some (.ref f)) ∧ FnF K "_law_due" "_law_due" s28 f)
    (g29 : ∃ f, PySem.W.nsIn K mainGlobals "_law_drawn_row" = some (some (.ref f)) ∧ FnF K "_law_drawn_row" "_law_drawn_row" s29 f)
    (g30 : ∃ f, PySem.W.nsIn K mainGlobals "_law_made" = some (some (.ref f)) ∧ FnF K "_law_made" "_law_made" s30 f)
    (g31 : ∃ f, PySem.W.nsIn K mainGlobals "_law_least" = some (some (.ref f)) ∧ FnF K "_law_least" "_law_least" s31 f)
    (g32 : ∃ f, PySem.W.nsIn K mainGlobals "_law_turned" = some (some (.ref f)) ∧ FnF K "_law_turned" "_law_turned" s32 f)
    (g33 : ∃ f, PySem.W.nsIn K mainGlobals "_law_by_way" = some (some (.ref f)) ∧ FnF K "_law_by_way" "_law_by_way" s33 f)
    (g34 : ∃ f, PySem.W.nsIn K mainGlobals "_law_ways" = some (some (.ref f)) ∧ FnF K "_law_ways" "_law_ways" s34 f)
    (g35 : ∃ f, PySem.W.nsIn K mainGlobals "_law_moved" = some (some (.ref f)) ∧ FnF K "_law_moved" "_law_moved" s35 f)
    (g36 : ∃ f, PySem.W.nsIn K mainGlobals "_law_ways_due" = some (some (.ref f)) ∧ FnF K "_law_ways_due" "_law_ways_due" s36 f)
    (g37 : ∃ f, PySem.W.nsIn K mainGlobals "_law_cloth" = some (some (.ref f)) ∧ FnF K "_law_cloth" "_law_cloth" s37 f)
    (g38 : ∃ f, PySem.W.nsIn K mainGlobals "_law_parts" = some (some (.ref f)) ∧ FnF K "_law_parts" "_law_parts" s38 f)
    (g39 : ∃ f, PySem.W.nsIn K mainGlobals "_law_others" = some (some (.ref f)) ∧ FnF K "_law_others" "_law_others" s39 f)
    (g40 : ∃ f, PySem.W.nsIn K mainGlobals "_law_own_right" = some (some (.ref f)) ∧ FnF K "_law_own_right" "_law_own_right" s40 f)
    (g41 : ∃ f, PySem.W.nsIn K mainGlobals "_law_closed" = some (some (.ref f)) ∧ FnF K "_law_closed" "_law_closed" s41 f)
    (g42 : ∃ f, PySem.W.nsIn K mainGlobals "_law_right" = some (some (.ref f)) ∧ FnF K "_law_right" "_law_right" s42 f)
    (g43 : ∃ f, PySem.W.nsIn K mainGlobals "law" = some (some (.ref f)) ∧ FnF K "law" "law" s43 f)
    (g49 : ∃ f, PySem.W.findIn K (.ref C0) "__eq__" = some (some (.ref f)) ∧ PySem.W.isFn K (.ref f) = true ∧ FnF K "__eq__" "Cloth.__eq__" s49 f)
    (g50 : ∃ f, PySem.W.findIn K (.ref C0) "turned" = some (some (.ref f)) ∧ PySem.W.isFn K (.ref f) = true ∧ FnF K "turned" "Cloth.turned" s50 f)
    (g54 : ∃ f, PySem.W.findIn K (.ref C1) "moved" = some (some (.ref f)) ∧ PySem.W.isFn K (.ref f) = true ∧ FnF K "moved" "Row.moved" s54 f)
    (g55 : ∃ f, PySem.W.findIn K (.ref C1) "turned" = some (some (.ref f)) ∧ PySem.W.isFn K (.ref f) = true ∧ FnF K "turned" "Row.turned" s55 f)
    (g52 : ∃ f, PySem.W.findIn K (.ref C1) "__eq__" = some (some (.ref f)) ∧ PySem.W.isFn K (.ref f) = true ∧ FnF K "__eq__" "Row.__eq__" s52 f)
    (g53 : ∃ f, PySem.W.findIn K (.ref C1) "thread" = some (some (.ref f)) ∧ PySem.W.isFn K (.ref f) = true ∧ FnF K "thread" "Row.thread" s53 f)
    (g48 : ∃ f, PySem.W.findIn K (.ref C0) "__init__" = some (some (.ref f)) ∧ PySem.W.isFn K (.ref f) = true ∧ FnF K "__init__" "Cloth.__init__" s48 f)
    (g51 : ∃ f t0 t1, PySem.W.findIn K (.ref C1) "__init__" = some (some (.ref f)) ∧ PySem.W.isFn K (.ref f) = true ∧ FnFd K "__init__" "Row.__init__" s51 f [.str "run" t0, .int 0 t1])
    (na0 : PySem.W.findIn K (.ref C0) "warp" = some none)
    (na1 : PySem.W.findIn K (.ref C0) "weft" = some none)
    (na2 : PySem.W.findIn K (.ref C1) "kept" = some none)
    (co0 : ∃ t, PySem.W.nsIn K mainGlobals "LETTERS" = some (some (.str "abcdefghijklmnopqrstuvwxyz" t)))
    (co1 : ∃ t, PySem.W.nsIn K mainGlobals "MOST" = some (some (.int 240 t)))
    (co2 : ∃ t, PySem.W.nsIn K mainGlobals "BIG" = some (some (.int 1000000000000000000000000000000 t)))
    (kd0 : PySem.W.nsIn K mainGlobals "WAYS" = some (some (.ref D0)) ∧ KdOk K w (io (fun i => (lk ([(0, C0), (1, C1)] : List (Nat × Addr)) i).getD 0)) D0 (((TT (fun i => (lk ([(0, C0), (1, C1)] : List (Nat × Addr)) i).getD 0) (fun i => (lk ([(0, D0), (1, D1)] : List (Nat × Addr)) i).getD 0) (fun i => (lk ([(11, F11), (12, F12), (13, F13), (14, F14), (15, F15)] : List (Nat × Addr)) i).getD 0)).kd 0).2))
    (kd1 : PySem.W.nsIn K mainGlobals "MANNERS" = some (some (.ref D1)) ∧ KdOk K w (io (fun i => (lk ([(0, C0), (1, C1)] : List (Nat × Addr)) i).getD 0)) D1 (((TT (fun i => (lk ([(0, C0), (1, C1)] : List (Nat × Addr)) i).getD 0) (fun i => (lk ([(0, D0), (1, D1)] : List (Nat × Addr)) i).getD 0) (fun i => (lk ([(11, F11), (12, F12), (13, F13), (14, F14), (15, F15)] : List (Nat × Addr)) i).getD 0)).kd 1).2))
    (bn0 : PySem.W.nsIn K mainGlobals "len" = some none)
    (bn1 : PySem.W.nsIn K mainGlobals "abs" = some none)
    (bn2 : PySem.W.nsIn K mainGlobals "max" = some none)
    (bn3 : PySem.W.nsIn K mainGlobals "min" = some none)
    (bn4 : PySem.W.nsIn K mainGlobals "sum" = some none)
    (bn5 : PySem.W.nsIn K mainGlobals "all" = some none)
    (bn6 : PySem.W.nsIn K mainGlobals "any" = some none)
    (bn7 : PySem.W.nsIn K mainGlobals "divmod" = some none)
    (bn8 : PySem.W.nsIn K mainGlobals "int" = some none)
    (bn9 : PySem.W.nsIn K mainGlobals "str" = some none)
    (bn10 : PySem.W.nsIn K mainGlobals "tuple" = some none)
    (bn11 : PySem.W.nsIn K mainGlobals "list" = some none)
    (bn12 : PySem.W.nsIn K mainGlobals "range" = some none)
    (bn13 : PySem.W.nsIn K mainGlobals "enumerate" = some none)
    (bn14 : PySem.W.nsIn K mainGlobals "isinstance" = some none)
    (bn15 : PySem.W.nsIn K mainGlobals "bool" = some none)
    (bn16 : PySem.W.nsIn K mainGlobals "sorted" = some none)
    (bn17 : PySem.W.nsIn K mainGlobals "set" = some none)
    (bn18 : PySem.W.nsIn K mainGlobals "dict" = some none)
    (ne1_0 : C1 ≠ C0)
    : GF K w mg (io (fun i => (lk ([(0, C0), (1, C1)] : List (Nat × Addr)) i).getD 0)) GG 40 FF (TT (fun i => (lk ([(0, C0), (1, C1)] : List (Nat × Addr)) i).getD 0) (fun i => (lk ([(0, D0), (1, D1)] : List (Nat × Addr)) i).getD 0) (fun i => (lk ([(11, F11), (12, F12), (13, F13), (14, F14), (15, F15)] : List (Nat × Addr)) i).getD 0)) := by
  have r0 : DL.Row K mg GG 40 P_check_way "check_way" 1 := g0.elim fun _ g => fn_row X N g.1 g.2 h0 c0 rfl (by decide) (fun _ _ _ _ _ _ us hl => match us, hl with | [_], _ => rfl) rfl
  have r1 : DL.Row K mg GG 40 P_behind "behind" 2 := g1.elim fun _ g => fn_row X N g.1 g.2 h1 c1 rfl (by decide) (fun _ _ _ _ _ _ us hl => match us, hl with | [_, _], _ => rfl) rfl
  have r2 : DL.Row K mg GG 40 P_ways_between "ways_between" 2 := g2.elim fun _ g => fn_row X N g.1 g.2 h2 c2 rfl (by decide) (fun _ _ _ _ _ _ us hl => match us, hl with | [_, _], _ => rfl) rfl
  have r3 : DL.Row K mg GG 40 P_is_whole "is_whole" 1 := g3.elim fun _ g => fn_row X N g.1 g.2 h3 c3 rfl (by decide) (fun _ _ _ _ _ _ us hl => match us, hl with | [_], _ => rfl) rfl
  have r4 : DL.Row K mg GG 40 P_is_between "is_between" 3 := g4.elim fun _ g => fn_row X N g.1 g.2 h4 c4 rfl (by decide) (fun _ _ _ _ _ _ us hl => match us, hl with | [_, _, _], _ => rfl) rfl
  have r5 : DL.Row K mg GG 40 P_is_word "is_word" 2 := g5.elim fun _ g => fn_row X N g.1 g.2 h5 c5 rfl (by decide) (fun _ _ _ _ _ _ us hl => match us, hl with | [_, _], _ => rfl) rfl
  have r6 : DL.Row K mg GG 40 P_is_shade "is_shade" 1 := g6.elim fun _ g => fn_row X N g.1 g.2 h6 c6 rfl (by decide) (fun _ _ _ _ _ _ us hl => match us, hl with | [_], _ => rfl) rfl
  have r7 : DL.Row K mg GG 40 P_is_stripe "is_stripe" 1 := g7.elim fun _ g => fn_row X N g.1 g.2 h7 c7 rfl (by decide) (fun _ _ _ _ _ _ us hl => match us, hl with | [_], _ => rfl) rfl
  have r8 : DL.Row K mg GG 40 P_check_stripes "check_stripes" 1 := g8.elim fun _ g => fn_row X N g.1 g.2 h8 c8 rfl (by decide) (fun _ _ _ _ _ _ us hl => match us, hl with | [_], _ => rfl) rfl
  have r9 : DL.Row K mg GG 40 P_threads_of "threads_of" 1 := g9.elim fun _ g => fn_row X N g.1 g.2 h9 c9 rfl (by decide) (fun _ _ _ _ _ _ us hl => match us, hl with | [_], _ => rfl) rfl
  have r10 : DL.Row K mg GG 40 P_merged "merged" 1 := g10.elim fun _ g => fn_row X N g.1 g.2 h10 c10 rfl (by decide) (fun _ _ _ _ _ _ us hl => match us, hl with | [_], _ => rfl) rfl
  have r11 : DL.Row K mg GG 40 P_run_word "run_word" 1 := fn_row X N g11.1 g11.2 h11 c11 rfl (by decide) (fun _ _ _ _ _ _ us hl => match us, hl with | [_], _ => rfl) rfl
  have r12 : DL.Row K mg GG 40 P_pivot_word "pivot_word" 1 := fn_row X N g12.1 g12.2 h12 c12 rfl (by decide) (fun _ _ _ _ _ _ us hl => match us, hl with | [_], _ => rfl) rfl
  have r13 : DL.Row K mg GG 40 P_fold_word "fold_word" 1 := fn_row X N g13.1 g13.2 h13 c13 rfl (by decide) (fun _ _ _ _ _ _ us hl => match us, hl with | [_], _ => rfl) rfl
  have r14 : DL.Row K mg GG 40 P_left_word "left_word" 1 := fn_row X N g14.1 g14.2 h14 c14 rfl (by decide) (fun _ _ _ _ _ _ us hl => match us, hl with | [_], _ => rfl) rfl
  have r15 : DL.Row K mg GG 40 P_right_word "right_word" 1 := fn_row X N g15.1 g15.2 h15 c15 rfl (by decide) (fun _ _ _ _ _ _ us hl => match us, hl with | [_], _ => rfl) rfl
  have r16 : DL.Row K mg GG 40 P_is_manner "is_manner" 1 := g16.elim fun _ g => fn_row X N g.1 g.2 h16 c16 rfl (by decide) (fun _ _ _ _ _ _ us hl => match us, hl with | [_], _ => rfl) rfl
  have r17 : DL.Row K mg GG 40 P_check_spot "check_spot" 1 := g17.elim fun _ g => fn_row X N g.1 g.2 h17 c17 rfl (by decide) (fun _ _ _ _ _ _ us hl => match us, hl with | [_], _ => rfl) rfl
  have r18 : DL.Row K mg GG 40 P_least_round "least_round" 1 := g18.elim fun _ g => fn_row X N g.1 g.2 h18 c18 rfl (by decide) (fun _ _ _ _ _ _ us hl => match us, hl with | [_], _ => rfl) rfl
  have r19 : DL.Row K mg GG 40 P_least_begun "least_begun" 1 := g19.elim fun _ g => fn_row X N g.1 g.2 h19 c19 rfl (by decide) (fun _ _ _ _ _ _ us hl => match us, hl with | [_], _ => rfl) rfl
  have r20 : DL.Row K mg GG 40 P_row_of_threads "row_of_threads" 1 := g20.elim fun _ g => fn_row X N g.1 g.2 h20 c20 rfl (by decide) (fun _ _ _ _ _ _ us hl => match us, hl with | [_], _ => rfl) rfl
  have r21 : DL.Row K mg GG 40 Q_pool "_law_pool" 2 := g21.elim fun _ g => fn_row X N g.1 g.2 h21 c21 rfl (by decide) (fun _ _ _ _ _ _ us hl => match us, hl with | [_, _], _ => rfl) rfl
  have r22 : DL.Row K mg GG 40 Q_take "_law_take" 2 := g22.elim fun _ g => fn_row X N g.1 g.2 h22 c22 rfl (by decide) (fun _ _ _ _ _ _ us hl => match us, hl with | [_, _], _ => rfl) rfl
  have r23 : DL.Row K mg GG 40 Q_some_shades "_law_some_shades" 2 := g23.elim fun _ g => fn_row X N g.1 g.2 h23 c23 rfl (by decide) (fun _ _ _ _ _ _ us hl => match us, hl with | [_, _], _ => rfl) rfl
  have r24 : DL.Row K mg GG 40 Q_drawn_stripes "_law_drawn_stripes" 4 := g24.elim fun _ g => fn_row X N g.1 g.2 h24 c24 rfl (by decide) (fun _ _ _ _ _ _ us hl => match us, hl with | [_, _, _, _], _ => rfl) rfl
  have r25 : DL.Row K mg GG 40 Q_threads "_law_threads" 1 := g25.elim fun _ g => fn_row X N g.1 g.2 h25 c25 rfl (by decide) (fun _ _ _ _ _ _ us hl => match us, hl with | [_], _ => rfl) rfl
  have r26 : DL.Row K mg GG 40 Q_word "_law_word" 2 := g26.elim fun _ g => fn_row X N g.1 g.2 h26 c26 rfl (by decide) (fun _ _ _ _ _ _ us hl => match us, hl with | [_, _], _ => rfl) rfl
  have r27 : DL.Row K mg GG 40 Q_least_round "_law_least_round" 1 := g27.elim fun _ g => fn_row X N g.1 g.2 h27 c27 rfl (by decide) (fun _ _ _ _ _ _ us hl => match us, hl with | [_], _ => rfl) rfl
  have r28 : DL.Row K mg GG 40 Q_due "_law_due" 3 := g28.elim fun _ g => fn_row X N g.1 g.2 h28 c28 rfl (by decide) (fun _ _ _ _ _ _ us hl => match us, hl with | [_, _, _], _ => rfl) rfl
  have r29 : DL.Row K mg GG 40 Q_drawn_row "_law_drawn_row" 1 := g29.elim fun _ g => fn_row X N g.1 g.2 h29 c29 rfl (by decide) (fun _ _ _ _ _ _ us hl => match us, hl with | [_], _ => rfl) rfl
  have r30 : DL.Row K mg GG 40 Q_made "_law_made" 1 := g30.elim fun _ g => fn_row X N g.1 g.2 h30 c30 rfl (by decide) (fun _ _ _ _ _ _ us hl => match us, hl with | [_], _ => rfl) rfl
  have r31 : DL.Row K mg GG 40 Q_least "_law_least" 1 := g31.elim fun _ g => fn_row X N g.1 g.2 h31 c31 rfl (by decide) (fun _ _ _ _ _ _ us hl => match us, hl with | [_], _ => rfl) rfl
  have r32 : DL.Row K mg GG 40 Q_turned "_law_turned" 1 := g32.elim fun _ g => fn_row X N g.1 g.2 h32 c32 rfl (by decide) (fun _ _ _ _ _ _ us hl => match us, hl with | [_], _ => rfl) rfl
  have r33 : DL.Row K mg GG 40 Q_by_way "_law_by_way" 3 := g33.elim fun _ g => fn_row X N g.1 g.2 h33 c33 rfl (by decide) (fun _ _ _ _ _ _ us hl => match us, hl with | [_, _, _], _ => rfl) rfl
  have r34 : DL.Row K mg GG 40 Q_ways "_law_ways" 0 := g34.elim fun _ g => fn_row X N g.1 g.2 h34 c34 rfl (by decide) (fun _ _ _ _ _ _ us hl => match us, hl with | [], _ => rfl) rfl
  have r35 : DL.Row K mg GG 40 Q_moved "_law_moved" 2 := g35.elim fun _ g => fn_row X N g.1 g.2 h35 c35 rfl (by decide) (fun _ _ _ _ _ _ us hl => match us, hl with | [_, _], _ => rfl) rfl
  have r36 : DL.Row K mg GG 40 Q_ways_due "_law_ways_due" 2 := g36.elim fun _ g => fn_row X N g.1 g.2 h36 c36 rfl (by decide) (fun _ _ _ _ _ _ us hl => match us, hl with | [_, _], _ => rfl) rfl
  have r37 : DL.Row K mg GG 40 Q_cloth "_law_cloth" 1 := g37.elim fun _ g => fn_row X N g.1 g.2 h37 c37 rfl (by decide) (fun _ _ _ _ _ _ us hl => match us, hl with | [_], _ => rfl) rfl
  have r38 : DL.Row K mg GG 40 Q_parts "_law_parts" 2 := g38.elim fun _ g => fn_row X N g.1 g.2 h38 c38 rfl (by decide) (fun _ _ _ _ _ _ us hl => match us, hl with | [_, _], _ => rfl) rfl
  have r39 : DL.Row K mg GG 40 Q_others "_law_others" 2 := g39.elim fun _ g => fn_row X N g.1 g.2 h39 c39 rfl (by decide) (fun _ _ _ _ _ _ us hl => match us, hl with | [_, _], _ => rfl) rfl
  have r40 : DL.Row K mg GG 40 Q_own_right "_law_own_right" 2 := g40.elim fun _ g => fn_row X N g.1 g.2 h40 c40 rfl (by decide) (fun _ _ _ _ _ _ us hl => match us, hl with | [_, _], _ => rfl) rfl
  have r41 : DL.Row K mg GG 40 Q_closed "_law_closed" 1 := g41.elim fun _ g => fn_row X N g.1 g.2 h41 c41 rfl (by decide) (fun _ _ _ _ _ _ us hl => match us, hl with | [_], _ => rfl) rfl
  have r42 : DL.Row K mg GG 40 Q_right "_law_right" 2 := g42.elim fun _ g => fn_row X N g.1 g.2 h42 c42 rfl (by decide) (fun _ _ _ _ _ _ us hl => match us, hl with | [_, _], _ => rfl) rfl
  have r43 : DL.Row K mg GG 40 Q_main "law" 1 := g43.elim fun _ g => fn_row X N g.1 g.2 h43 c43 rfl (by decide) (fun _ _ _ _ _ _ us hl => match us, hl with | [_], _ => rfl) rfl
  have r49 : ∃ f fd ps, FnD K GG 40 P_Cloth___eq__ f fd ps ∧ Meth K C0 "__eq__" f ∧ Binds K fd ps [] := g49.elim fun _ g => fn_meth g.1 g.2.1 g.2.2 h49 c49 rfl (by decide) (fun _ _ _ _ _ _ us hl => match us, hl with | [_, _], _ => rfl)
  have r50 : ∃ f fd ps, FnD K GG 40 P_Cloth_turned f fd ps ∧ Meth K C0 "turned" f ∧ Binds K fd ps [] := g50.elim fun _ g => fn_meth g.1 g.2.1 g.2.2 h50 c50 rfl (by decide) (fun _ _ _ _ _ _ us hl => match us, hl with | [_, _], _ => rfl)
  have r54 : ∃ f fd ps, FnD K GG 40 P_Row_moved f fd ps ∧ Meth K C1 "moved" f ∧ Binds K fd ps [] := g54.elim fun _ g => fn_meth g.1 g.2.1 g.2.2 h54 c54 rfl (by decide) (fun _ _ _ _ _ _ us hl => match us, hl with | [_, _], _ => rfl)
  have r55 : ∃ f fd ps, FnD K GG 40 P_Row_turned f fd ps ∧ Meth K C1 "turned" f ∧ Binds K fd ps [] := g55.elim fun _ g => fn_meth g.1 g.2.1 g.2.2 h55 c55 rfl (by decide) (fun _ _ _ _ _ _ us hl => match us, hl with | [_], _ => rfl)
  have r52 : ∃ f fd ps, FnD K GG 40 P_Row___eq__ f fd ps ∧ Meth K C1 "__eq__" f ∧ Binds K fd ps [] := g52.elim fun _ g => fn_meth g.1 g.2.1 g.2.2 h52 c52 rfl (by decide) (fun _ _ _ _ _ _ us hl => match us, hl with | [_, _], _ => rfl)
  have r53 : ∃ f fd ps, FnD K GG 40 P_Row_thread f fd ps ∧ Meth K C1 "thread" f ∧ Binds K fd ps [] := g53.elim fun _ g => fn_meth g.1 g.2.1 g.2.2 h53 c53 rfl (by decide) (fun _ _ _ _ _ _ us hl => match us, hl with | [_, _], _ => rfl)
  have r48 : ∃ f fd ps, FnD K GG 40 P_Cloth___init__ f fd ps ∧ Mk K C0 f ∧ Binds K fd ps [] := g48.elim fun _ g => fn_init kc0.2.1 kc0.2.2 g.1 g.2.1 g.2.2 h48 c48 rfl (by decide) (fun _ _ _ _ _ _ us hl => match us, hl with | [_, _, _], _ => rfl)
  refine gf_of (G := GG) (fds := FF) (T0 := (TT (fun i => (lk ([(0, C0), (1, C1)] : List (Nat × Addr)) i).getD 0) (fun i => (lk ([(0, D0), (1, D1)] : List (Nat × Addr)) i).getD 0) (fun i => (lk ([(11, F11), (12, F12), (13, F13), (14, F14), (15, F15)] : List (Nat × Addr)) i).getD 0))) ?_ ?_ ?_ ?_ ?_ ?_ ?_ ?_ rfl ?_ ?_
  · exact (.cons ⟨P_check_way, rfl, r0⟩ (.cons ⟨P_behind, rfl, r1⟩ (.cons ⟨P_ways_between, rfl, r2⟩ (.cons ⟨P_is_whole, rfl, r3⟩ (.cons ⟨P_is_between, rfl, r4⟩ (.cons ⟨P_is_word, rfl, r5⟩ (.cons ⟨P_is_shade, rfl, r6⟩ (.cons ⟨P_is_stripe, rfl, r7⟩ (.cons ⟨P_check_stripes, rfl, r8⟩ (.cons ⟨P_threads_of, rfl, r9⟩ (.cons ⟨P_merged, rfl, r10⟩ (.cons ⟨P_run_word, rfl, r11⟩ (.cons ⟨P_pivot_word, rfl, r12⟩ (.cons ⟨P_fold_word, rfl, r13⟩ (.cons ⟨P_left_word, rfl, r14⟩ (.cons ⟨P_right_word, rfl, r15⟩ (.cons ⟨P_is_manner, rfl, r16⟩ (.cons ⟨P_check_spot, rfl, r17⟩ (.cons ⟨P_least_round, rfl, r18⟩ (.cons ⟨P_least_begun, rfl, r19⟩ (.cons ⟨P_row_of_threads, rfl, r20⟩ (.cons ⟨Q_pool, rfl, r21⟩ (.cons ⟨Q_take, rfl, r22⟩ (.cons ⟨Q_some_shades, rfl, r23⟩ (.cons ⟨Q_drawn_stripes, rfl, r24⟩ (.cons ⟨Q_threads, rfl, r25⟩ (.cons ⟨Q_word, rfl, r26⟩ (.cons ⟨Q_least_round, rfl, r27⟩ (.cons ⟨Q_due, rfl, r28⟩ (.cons ⟨Q_drawn_row, rfl, r29⟩ (.cons ⟨Q_made, rfl, r30⟩ (.cons ⟨Q_least, rfl, r31⟩ (.cons ⟨Q_turned, rfl, r32⟩ (.cons ⟨Q_by_way, rfl, r33⟩ (.cons ⟨Q_ways, rfl, r34⟩ (.cons ⟨Q_moved, rfl, r35⟩ (.cons ⟨Q_ways_due, rfl, r36⟩ (.cons ⟨Q_cloth, rfl, r37⟩ (.cons ⟨Q_parts, rfl, r38⟩ (.cons ⟨Q_others, rfl, r39⟩ (.cons ⟨Q_own_right, rfl, r40⟩ (.cons ⟨Q_closed, rfl, r41⟩ (.cons ⟨Q_right, rfl, r42⟩ (.cons ⟨Q_main, rfl, r43⟩ .nil))))))))))))))))))))))))))))))))))))))))))))
  · exact (.cons (r49.elim fun f h => h.elim fun fd h => h.elim fun ps h => ⟨rfl, ki0.cl, P_Cloth___eq__, f, fd, ps, rfl, h.1, h.2.1, h.2.2, rfl⟩) (.cons (r50.elim fun f h => h.elim fun fd h => h.elim fun ps h => ⟨rfl, ki0.cl, P_Cloth_turned, f, fd, ps, rfl, h.1, h.2.1, h.2.2, rfl⟩) (.cons (r54.elim fun f h => h.elim fun fd h => h.elim fun ps h => ⟨rfl, ki1.cl, P_Row_moved, f, fd, ps, rfl, h.1, h.2.1, h.2.2, rfl⟩) (.cons (r55.elim fun f h => h.elim fun fd h => h.elim fun ps h => ⟨rfl, ki1.cl, P_Row_turned, f, fd, ps, rfl, h.1, h.2.1, h.2.2, rfl⟩) (.cons (r52.elim fun f h => h.elim fun fd h => h.elim fun ps h => ⟨rfl, ki1.cl, P_Row___eq__, f, fd, ps, rfl, h.1, h.2.1, h.2.2, rfl⟩) (.cons (r53.elim fun f h => h.elim fun fd h => h.elim fun ps h => ⟨rfl, ki1.cl, P_Row_thread, f, fd, ps, rfl, h.1, h.2.1, h.2.2, rfl⟩) .nil))))))
  · refine (.cons ?_ (.cons ?_ (.cons ?_ .nil)))
    · obtain ⟨f, fd, ps, h1, h2, h3⟩ := r48
      exact ⟨⟨P_Cloth___init__, f, fd, ps, [], [], rfl, h1, h2, PySem.W.mg_of X N kc0.1, h3, .nil, fun H => .nil, rfl⟩, ⟨by simp [io, TT, lk], by simp [io, TT, lk], rfl⟩⟩
    · obtain ⟨f, t0, t1, a, i, hf⟩ := g51
      obtain ⟨f, fd, ps, h1, h2, h3⟩ := fn_initd (G := GG) (np := 40) (F := P_Row___init__) kc1.2.1 kc1.2.2 a i hf h51 c51 rfl (by decide) ([] : List Value) 4 rfl (fun T _ _ _ _ _ _ us hl => match us, hl with | [_, _, _, _], _ => ⟨_, rfl, rfl⟩)
      exact ⟨⟨P_Row___init__, f, fd, ps, [], [], rfl, h1, h2, PySem.W.mg_of X N kc1.1, h3, .nil, fun H => .nil, rfl⟩, ⟨by simp [io, TT, lk], by simp [io, TT, lk], rfl⟩⟩
    · obtain ⟨f, t0, t1, a, i, hf⟩ := g51
      obtain ⟨f, fd, ps, h1, h2, h3⟩ := fn_initd (G := GG) (np := 40) (F := P_Row___init__) kc1.2.1 kc1.2.2 a i hf h51 c51 rfl (by decide) ([.str "run" t0, .int 0 t1] : List Value) 2 rfl (fun T _ _ _ _ _ _ us hl => match us, hl with | [_, _], _ => ⟨_, rfl, rfl⟩)
      exact ⟨⟨P_Row___init__, f, fd, ps, [.str "run", .int 0], [.str "run" t0, .int 0 t1], rfl, h1, h2, PySem.W.mg_of X N kc1.1, h3, (.cons ⟨_, rfl⟩ (.cons ⟨_, rfl⟩ .nil)), fun H => (.cons (.str _) (.cons (.int _) .nil)), rfl⟩, ⟨by simp [io, TT, lk], by simp [io, TT, lk], rfl⟩⟩
  · refine (.cons ⟨⟨ki0.cl, na0⟩, fun n z => ?_⟩ (.cons ⟨⟨ki0.cl, na1⟩, fun n z => ?_⟩ (.cons ⟨⟨ki1.cl, na2⟩, fun n z => ?_⟩ .nil)))
    all_goals (simp [io, TT, lk, ne1_0, ne1_0.symm] at z ⊢; exact z)
  · exact (.cons (co0.elim fun t a => ⟨.str "abcdefghijklmnopqrstuvwxyz", _, PySem.W.mg_of X N a, ⟨t, rfl⟩, fun H => .str _⟩) (.cons (co1.elim fun t a => ⟨.int 240, _, PySem.W.mg_of X N a, ⟨t, rfl⟩, fun H => .int _⟩) (.cons (co2.elim fun t a => ⟨.int 1000000000000000000000000000000, _, PySem.W.mg_of X N a, ⟨t, rfl⟩, fun H => .int _⟩) .nil)))
  · intro x hx
    simp only [bnames, List.mem_cons, List.not_mem_nil, or_false] at hx
    rcases hx with rfl | rfl | rfl | rfl | rfl | rfl | rfl | rfl | rfl | rfl | rfl | rfl | rfl | rfl | rfl | rfl | rfl | rfl | rfl
    all_goals first | exact PySem.W.mg_none_of X N bn0 | exact PySem.W.mg_none_of X N bn1 | exact PySem.W.mg_none_of X N bn2 | exact PySem.W.mg_none_of X N bn3 | exact PySem.W.mg_none_of X N bn4 | exact PySem.W.mg_none_of X N bn5 | exact PySem.W.mg_none_of X N bn6 | exact PySem.W.mg_none_of X N bn7 | exact PySem.W.mg_none_of X N bn8 | exact PySem.W.mg_none_of X N bn9 | exact PySem.W.mg_none_of X N bn10 | exact PySem.W.mg_none_of X N bn11 | exact PySem.W.mg_none_of X N bn12 | exact PySem.W.mg_none_of X N bn13 | exact PySem.W.mg_none_of X N bn14 | exact PySem.W.mg_none_of X N bn15 | exact PySem.W.mg_none_of X N bn16 | exact PySem.W.mg_none_of X N bn17 | exact PySem.W.mg_none_of X N bn18
  · exact (.cons ki0 (.cons ki1 .nil))
  · exact (.cons ⟨PySem.W.mg_of X N kd0.1, kd0.2⟩ (.cons ⟨PySem.W.mg_of X N kd1.1, kd1.2⟩ .nil))
  · refine (.cons ?_ .nil)
    · obtain ⟨f, a, oc, od, kV, doc, pm, an, cdv, ct, osl, l, cd, k⟩ := g2
      refine ⟨(show ∀ i ∈ ([1, 0] : List Nat), i < 2 by decide), P_ways_between, f, _, ["cloth", "other"], rfl, ⟨⟨_, _, s2, ⟨oc, od, .none, kV, doc, pm, an, cdv, ct, osl, rfl, l, cd⟩, h2, c2⟩, rfl, by decide⟩, PySem.W.mg_of X N a, k, kbinds_of (perm := [1, 0]) (by decide) (by decide) rfl fun ws hl => ?_, rfl⟩
      match ws, hl with
      | [_, _], _ => rfl
  · exact (.cons ((fn_all g11.2 h11 c11 rfl (by decide) (fun _ _ _ _ _ _ us hl => match us, hl with | [_], _ => rfl)).elim fun fd h => ⟨P_run_word, fd, _, rfl, h.1, h.2.1, h.2.2, rfl⟩) (.cons ((fn_all g12.2 h12 c12 rfl (by decide) (fun _ _ _ _ _ _ us hl => match us, hl with | [_], _ => rfl)).elim fun fd h => ⟨P_pivot_word, fd, _, rfl, h.1, h.2.1, h.2.2, rfl⟩) (.cons ((fn_all g13.2 h13 c13 rfl (by decide) (fun _ _ _ _ _ _ us hl => match us, hl with | [_], _ => rfl)).elim fun fd h => ⟨P_fold_word, fd, _, rfl, h.1, h.2.1, h.2.2, rfl⟩) (.cons ((fn_all g14.2 h14 c14 rfl (by decide) (fun _ _ _ _ _ _ us hl => match us, hl with | [_], _ => rfl)).elim fun fd h => ⟨P_left_word, fd, _, rfl, h.1, h.2.1, h.2.2, rfl⟩) (.cons ((fn_all g15.2 h15 c15 rfl (by decide) (fun _ _ _ _ _ _ us hl => match us, hl with | [_], _ => rfl)).elim fun fd h => ⟨P_right_word, fd, _, rfl, h.1, h.2.1, h.2.2, rfl⟩) .nil)))))
/-- the mathematics that is wanted: what the law's own def comes to -/
def RunOk : Prop := ∀ cs ks fs : Nat → Addr, fs 12 ≠ fs 11 → fs 13 ≠ fs 11 → fs 13 ≠ fs 12 → fs 14 ≠ fs 11 → fs 14 ≠ fs 12 → fs 14 ≠ fs 13 → fs 15 ≠ fs 11 → fs 15 ≠ fs 12 → fs 15 ≠ fs 13 → fs 15 ≠ fs 14 → ∀ ns : List Int, ns.length ≤ 63 → (∀ z ∈ ns, Builtin.Int.intBits z ≤ 1048576) → ∃ o, callN 40 FF (TT cs ks fs) 21 43 [.im (.klst (ns.map D.int))] = some (.ret (.im (.bl true)) o)
theorem fin {l : PySem.W.OpenLaw} {K : PySem.W.Frag} {w : World} {mg : Str → Option Value} {h : Heap} {fa : Addr} {C0 C1 D0 D1 F11 F12 F13 F14 F15 : Addr} (run : RunOk) (X : K.In h) (N : h.Ns mainGlobals mg) (hfa : mg "law" = some (.ref fa))
    (kc0 : PySem.W.nsIn K mainGlobals "Cloth" = some (some (.ref C0)) ∧ PySem.W.makesIn K C0 = true ∧ PySem.W.keepIn K (.ref C0) = true)
    (ki0 : IsC K C0)
    (kc1 : PySem.W.nsIn K mainGlobals "Row" = some (some (.ref C1)) ∧ PySem.W.makesIn K C1 = true ∧ PySem.W.keepIn K (.ref C1) = true)
    (ki1 : IsC K C1)
    (g0 : ∃ f, PySem.W.nsIn K mainGlobals "check_way" = some (some (.ref f)) ∧ FnF K "check_way" "check_way" s0 f)
    (g1 : ∃ f, PySem.W.nsIn K mainGlobals "behind" = some (some (.ref f)) ∧ FnF K "behind" "behind" s1 f)
    (g2 : ∃ f, PySem.W.nsIn K mainGlobals "ways_between" = some (some (.ref f)) ∧ FnF K "ways_between" "ways_between" s2 f)
    (g3 : ∃ f, PySem.W.nsIn K mainGlobals "is_whole" = some (some (.ref f)) ∧ FnF K "is_whole" "is_whole" s3 f)
    (g4 : ∃ f, PySem.W.nsIn K mainGlobals "is_between" = some (some (.ref f)) ∧ FnF K "is_between" "is_between" s4 f)
    (g5 : ∃ f, PySem.W.nsIn K mainGlobals "is_word" = some (some (.ref f)) ∧ FnF K "is_word" "is_word" s5 f)
    (g6 : ∃ f, PySem.W.nsIn K mainGlobals "is_shade" = some (some (.ref f)) ∧ FnF K "is_shade" "is_shade" s6 f)
    (g7 : ∃ f, PySem.W.nsIn K mainGlobals "is_stripe" = some (some (.ref f)) ∧ FnF K "is_stripe" "is_stripe" s7 f)
    (g8 : ∃ f, PySem.W.nsIn K mainGlobals "check_stripes" = some (some (.ref f)) ∧ FnF K "check_stripes" "check_stripes" s8 f)
    (g9 : ∃ f, PySem.W.nsIn K mainGlobals "threads_of" = some (some (.ref f)) ∧ FnF K "threads_of" "threads_of" s9 f)
    (g10 : ∃ f, PySem.W.nsIn K mainGlobals "merged" = some (some (.ref f)) ∧ FnF K "merged" "merged" s10 f)
    (g11 : PySem.W.nsIn K mainGlobals "run_word" = some (some (.ref F11)) ∧ FnF K "run_word" "run_word" s11 F11)
    (g12 : PySem.W.nsIn K mainGlobals "pivot_word" = some (some (.ref F12)) ∧ FnF K "pivot_word" "pivot_word" s12 F12)
    (g13 : PySem.W.nsIn K mainGlobals "fold_word" = some (some (.ref F13)) ∧ FnF K "fold_word" "fold_word" s13 F13)
    (g14 : PySem.W.nsIn K mainGlobals "left_word" = some (some (.ref F14)) ∧ FnF K "left_word" "left_word" s14 F14)
    (g15 : PySem.W.nsIn K mainGlobals "right_word" = some (some (.ref F15)) ∧ FnF K "right_word" "right_word" s15 F15)
    (g16 : ∃ f, PySem.W.nsIn K mainGlobals "is_manner" = some (some (.ref f)) ∧ FnF K "is_manner" "is_manner" s16 f)
    (g17 : ∃ f, PySem.W.nsIn K mainGlobals "check_spot" = some (some (.ref f)) ∧ FnF K "check_spot" "check_spot" s17 f)
    (g18 : ∃ f, PySem.W.nsIn K mainGlobals "least_round" = some (some (.ref f)) ∧ FnF K "least_round" "least_round" s18 f)
    (g19 : ∃ f, PySem.W.nsIn K mainGlobals "least_begun" = some (some (.ref f)) ∧ FnF K "least_begun" "least_begun" s19 f)
    (g20 : ∃ f, PySem.W.nsIn K mainGlobals "row_of_threads" = some (some (.ref f)) ∧ FnF K "row_of_threads" "row_of_threads" s20 f)
    (g21 : ∃ f, PySem.W.nsIn K mainGlobals "_law_pool" = some (some (.ref f)) ∧ FnF K "_law_pool" "_law_pool" s21 f)
    (g22 : ∃ f, PySem.W.nsIn K mainGlobals "_law_take" = some (some (.ref f)) ∧ FnF K "_law_take" "_law_take" s22 f)
    (g23 : ∃ f, PySem.W.nsIn K mainGlobals "_law_some_shades" = some (some (.ref f)) ∧ FnF K "_law_some_shades" "_law_some_shades" s23 f)
    (g24 : ∃ f, PySem.W.nsIn K mainGlobals "_law_drawn_stripes" = some (some (.ref f)) ∧ FnF K "_law_drawn_stripes" "_law_drawn_stripes" s24 f)
    (g25 : ∃ f, PySem.W.nsIn K mainGlobals "_law_threads" = some (some (.ref f)) ∧ FnF K "_law_threads" "_law_threads" s25 f)
    (g26 : ∃ f, PySem.W.nsIn K mainGlobals "_law_word" = some (some (.ref f)) ∧ FnF K "_law_word" "_law_word" s26 f)
    (g27 : ∃ f, PySem.W.nsIn K mainGlobals "_law_least_round" = some (some (.ref f)) ∧ FnF K "_law_least_round" "_law_least_round" s27 f)
    (g28 : ∃ f, PySem.W.nsIn K mainGlobals "_law_due" = some (some (.ref f)) ∧ FnF K "_law_due" "_law_due" s28 f)
    (g29 : ∃ f, PySem.W.nsIn K mainGlobals "_law_drawn_row" = some (some (.ref f)) ∧ FnF K "_law_drawn_row" "_law_drawn_row" s29 f)
    (g30 : ∃ f, PySem.W.nsIn K mainGlobals "_law_made" = some (some (.ref f)) ∧ FnF K "_law_made" "_law_made" s30 f)
    (g31 : ∃ f, PySem.W.nsIn K mainGlobals "_law_least" = some (some (.ref f)) ∧ FnF K "_law_least" "_law_least" s31 f)
    (g32 : ∃ f, PySem.W.nsIn K mainGlobals "_law_turned" = some (some (.ref f)) ∧ FnF K "_law_turned" "_law_turned" s32 f)
    (g33 : ∃ f, PySem.W.nsIn K mainGlobals "_law_by_way" = some (some (.ref f)) ∧ FnF K "_law_by_way" "_law_by_way" s33 f)
    (g34 : ∃ f, PySem.W.nsIn K mainGlobals "_law_ways" = some (some (.ref f)) ∧ FnF K "_law_ways" "_law_ways" s34 f)
    (g35 : ∃ f, PySem.W.nsIn K mainGlobals "_law_moved" = some (some (.ref f)) ∧ FnF K "_law_moved" "_law_moved" s35 f)
    (g36 : ∃ f, PySem.W.nsIn K mainGlobals "_law_ways_due" = some (some (.ref f)) ∧ FnF K "_law_ways_due" "_law_ways_due" s36 f)
    (g37 : ∃ f, PySem.W.nsIn K mainGlobals "_law_cloth" = some (some (.ref f)) ∧ FnF K "_law_cloth" "_law_cloth" s37 f)
    (g38 : ∃ f, PySem.W.nsIn K mainGlobals "_law_parts" = some (some (.ref f)) ∧ FnF K "_law_parts" "_law_parts" s38 f)
    (g39 : ∃ f, PySem.W.nsIn K mainGlobals "_law_others" = some (some (.ref f)) ∧ FnF K "_law_others" "_law_others" s39 f)
    (g40 : ∃ f, PySem.W.nsIn K mainGlobals "_law_own_right" = some (some (.ref f)) ∧ FnF K "_law_own_right" "_law_own_right" s40 f)
    (g41 : ∃ f, PySem.W.nsIn K mainGlobals "_law_closed" = some (some (.ref f)) ∧ FnF K "_law_closed" "_law_closed" s41 f)
    (g42 : ∃ f, PySem.W.nsIn K mainGlobals "_law_right" = some (some (.ref f)) ∧ FnF K "_law_right" "_law_right" s42 f)
    (g43 : ∃ f, PySem.W.nsIn K mainGlobals "law" = some (some (.ref f)) ∧ FnF K "law" "law" s43 f)
    (g49 : ∃ f, PySem.W.findIn K (.ref C0) "__eq__" = some (some (.ref f)) ∧ PySem.W.isFn K (.ref f) = true ∧ FnF K "__eq__" "Cloth.__eq__" s49 f)
    (g50 : ∃ f, PySem.W.findIn K (.ref C0) "turned" = some (some (.ref f)) ∧ PySem.W.isFn K (.ref f) = true ∧ FnF K "turned" "Cloth.turned" s50 f)
    (g54 : ∃ f, PySem.W.findIn K (.ref C1) "moved" = some (some (.ref f)) ∧ PySem.W.isFn K (.ref f) = true ∧ FnF K "moved" "Row.moved" s54 f)
    (g55 : ∃ f, PySem.W.findIn K (.ref C1) "turned" = some (some (.ref f)) ∧ PySem.W.isFn K (.ref f) = true ∧ FnF K "turned" "Row.turned" s55 f)
    (g52 : ∃ f, PySem.W.findIn K (.ref C1) "__eq__" = some (some (.ref f)) ∧ PySem.W.isFn K (.ref f) = true ∧ FnF K "__eq__" "Row.__eq__" s52 f)
    (g53 : ∃ f, PySem.W.findIn K (.ref C1) "thread" = some (some (.ref f)) ∧ PySem.W.isFn K (.ref f) = true ∧ FnF K "thread" "Row.thread" s53 f)
    (g48 : ∃ f, PySem.W.findIn K (.ref C0) "__init__" = some (some (.ref f)) ∧ PySem.W.isFn K (.ref f) = true ∧ FnF K "__init__" "Cloth.__init__" s48 f)
    (g51 : ∃ f t0 t1, PySem.W.findIn K (.ref C1) "__init__" = some (some (.ref f)) ∧ PySem.W.isFn K (.ref f) = true ∧ FnFd K "__init__" "Row.__init__" s51 f [.str "run" t0, .int 0 t1])
    (na0 : PySem.W.findIn K (.ref C0) "warp" = some none)
    (na1 : PySem.W.findIn K (.ref C0) "weft" = some none)
    (na2 : PySem.W.findIn K (.ref C1) "kept" = some none)
    (co0 : ∃ t, PySem.W.nsIn K mainGlobals "LETTERS" = some (some (.str "abcdefghijklmnopqrstuvwxyz" t)))
    (co1 : ∃ t, PySem.W.nsIn K mainGlobals "MOST" = some (some (.int 240 t)))
    (co2 : ∃ t, PySem.W.nsIn K mainGlobals "BIG" = some (some (.int 1000000000000000000000000000000 t)))
    (kd0 : PySem.W.nsIn K mainGlobals "WAYS" = some (some (.ref D0)) ∧ KdOk K w (io (fun i => (lk ([(0, C0), (1, C1)] : List (Nat × Addr)) i).getD 0)) D0 (((TT (fun i => (lk ([(0, C0), (1, C1)] : List (Nat × Addr)) i).getD 0) (fun i => (lk ([(0, D0), (1, D1)] : List (Nat × Addr)) i).getD 0) (fun i => (lk ([(11, F11), (12, F12), (13, F13), (14, F14), (15, F15)] : List (Nat × Addr)) i).getD 0)).kd 0).2))
    (kd1 : PySem.W.nsIn K mainGlobals "MANNERS" = some (some (.ref D1)) ∧ KdOk K w (io (fun i => (lk ([(0, C0), (1, C1)] : List (Nat × Addr)) i).getD 0)) D1 (((TT (fun i => (lk ([(0, C0), (1, C1)] : List (Nat × Addr)) i).getD 0) (fun i => (lk ([(0, D0), (1, D1)] : List (Nat × Addr)) i).getD 0) (fun i => (lk ([(11, F11), (12, F12), (13, F13), (14, F14), (15, F15)] : List (Nat × Addr)) i).getD 0)).kd 1).2))
    (bn0 : PySem.W.nsIn K mainGlobals "len" = some none)
    (bn1 : PySem.W.nsIn K mainGlobals "abs" = some none)
    (bn2 : PySem.W.nsIn K mainGlobals "max" = some none)
    (bn3 : PySem.W.nsIn K mainGlobals "min" = some none)
    (bn4 : PySem.W.nsIn K mainGlobals "sum" = some none)
    (bn5 : PySem.W.nsIn K mainGlobals "all" = some none)
    (bn6 : PySem.W.nsIn K mainGlobals "any" = some none)
    (bn7 : PySem.W.nsIn K mainGlobals "divmod" = some none)
    (bn8 : PySem.W.nsIn K mainGlobals "int" = some none)
    (bn9 : PySem.W.nsIn K mainGlobals "str" = some none)
    (bn10 : PySem.W.nsIn K mainGlobals "tuple" = some none)
    (bn11 : PySem.W.nsIn K mainGlobals "list" = some none)
    (bn12 : PySem.W.nsIn K mainGlobals "range" = some none)
    (bn13 : PySem.W.nsIn K mainGlobals "enumerate" = some none)
    (bn14 : PySem.W.nsIn K mainGlobals "isinstance" = some none)
    (bn15 : PySem.W.nsIn K mainGlobals "bool" = some none)
    (bn16 : PySem.W.nsIn K mainGlobals "sorted" = some none)
    (bn17 : PySem.W.nsIn K mainGlobals "set" = some none)
    (bn18 : PySem.W.nsIn K mainGlobals "dict" = some none)
    (ne1_0 : C1 ≠ C0)
    (nf12_11 : F12 ≠ F11)
    (nf13_11 : F13 ≠ F11)
    (nf13_12 : F13 ≠ F12)
    (nf14_11 : F14 ≠ F11)
    (nf14_12 : F14 ≠ F12)
    (nf14_13 : F14 ≠ F13)
    (nf15_11 : F15 ≠ F11)
    (nf15_12 : F15 ≠ F12)
    (nf15_13 : F15 ≠ F13)
    (nf15_14 : F15 ≠ F14)
    : ∃ fd : FuncData, (∀ (s : Shared) (u : Value), BindsTo s fd ⟨[u], []⟩ [("_law_script", u)]) ∧ ∀ base : Heap, K.In base → base.Ns mainGlobals mg → FnOk l.prog w K mg base (L2.CX l.prog w) 42 fa fd ["_law_script"] (spLaw K) := by
  have g := gf X N kc0 ki0 kc1 ki1 g0 g1 g2 g3 g4 g5 g6 g7 g8 g9 g10 g11 g12 g13 g14 g15 g16 g17 g18 g19 g20 g21 g22 g23 g24 g25 g26 g27 g28 g29 g30 g31 g32 g33 g34 g35 g36 g37 g38 g39 g40 g41 g42 g43 g49 g50 g54 g55 g52 g53 g48 g51 na0 na1 na2 co0 co1 co2 kd0 kd1 bn0 bn1 bn2 bn3 bn4 bn5 bn6 bn7 bn8 bn9 bn10 bn11 bn12 bn13 bn14 bn15 bn16 bn17 bn18 ne1_0
  obtain ⟨f, a, oc, od, kV, doc, pm, an, cdv, ct, osl, l1, cd, k⟩ := g43
  have e := hfa.symm.trans (PySem.W.mg_of X N a)
  cases e
  exact ⟨_, fun s u => .of_eq rfl, fun base _ _ => law_ok (j := 43) (d := 20) g rfl ⟨⟨_, _, s43, ⟨oc, od, .none, kV, doc, pm, an, cdv, ct, osl, rfl, l1, cd⟩, h43, c43⟩, rfl, by decide⟩ rfl (run _ _ _ nf12_11 nf13_11 nf13_12 nf14_11 nf14_12 nf14_13 nf15_11 nf15_12 nf15_13 nf15_14)⟩
end LW
/-! R37: what T37 tells is what the specs lean on. -/
namespace LW
open PySem PySem.Spec L2 DL WD
theorem ph37 (cs ks fs : Nat → Addr) (n1 : fs 12 ≠ fs 11) (n2 : fs 13 ≠ fs 11) (n3 : fs 13 ≠ fs 12) (n4 : fs 14 ≠ fs 11) (n5 : fs 14 ≠ fs 12) (n6 : fs 14 ≠ fs 13) (n7 : fs 15 ≠ fs 11) (n8 : fs 15 ≠ fs 12) (n9 : fs 15 ≠ fs 13) (n10 : fs 15 ≠ fs 14) : PH FF (TT cs ks fs) where
  f3 := rfl
  f4 := rfl
  f5 := rfl
  f6 := rfl
  f7 := rfl
  f8 := rfl
  f9 := rfl
  f10 := rfl
  f11 := rfl
  f12 := rfl
  f13 := rfl
  f14 := rfl
  f15 := rfl
  f16 := rfl
  f17 := rfl
  f18 := rfl
  f19 := rfl
  f20 := rfl
  f51 := rfl
  f52 := rfl
  f53 := rfl
  f54 := rfl
  f55 := rfl
  con0 := rfl
  con1 := rfl
  con2 := rfl
  cls2 := rfl
  full1 := rfl
  full2 := rfl
  meth2 := rfl
  meth3 := rfl
  meth4 := rfl
  meth5 := rfl
  mnm2 := rfl
  mnm3 := rfl
  mnm4 := rfl
  mnm5 := rfl
  init1 := rfl
  init2 := rfl
  kd1 := rfl
  fn11 := by
    show ([11, 12, 13, 14, 15].find? fun j => fs j = fs 11) = some 11
    simp
  fn12 := by
    show ([11, 12, 13, 14, 15].find? fun j => fs j = fs 12) = some 12
    simp [List.find?_cons, n1.symm]
  fn13 := by
    show ([11, 12, 13, 14, 15].find? fun j => fs j = fs 13) = some 13
    simp [List.find?_cons, n2.symm, n3.symm]
  fn14 := by
    show ([11, 12, 13, 14, 15].find? fun j => fs j = fs 14) = some 14
    simp [List.find?_cons, n4.symm, n5.symm, n6.symm]
  fn15 := by
    show ([11, 12, 13, 14, 15].find? fun j => fs j = fs 15) = some 15
    simp [List.find?_cons, n7.symm, n8.symm, n9.symm, n10.symm]
theorem pc37 (cs ks fs : Nat → Addr) : PC FF (TT cs ks fs) := ⟨rfl, rfl, rfl, rfl, rfl, rfl, rfl, rfl, rfl, rfl, rfl, rfl, rfl, rfl⟩
theorem pq37 : PQ FF := ⟨rfl, rfl, rfl, rfl, rfl, rfl, rfl, rfl⟩
theorem pk37 : PK FF := ⟨rfl, rfl, rfl, rfl, rfl, rfl, rfl, rfl, rfl, rfl, rfl, rfl, rfl, rfl, rfl⟩
theorem run37 : RunOk := by
  intro cs ks fs n1 n2 n3 n4 n5 n6 n7 n8 n9 n10 ns h1 _
  obtain ⟨_, e, o, rfl⟩ := sp_main pk37 pq37 (ph37 cs ks fs n1 n2 n3 n4 n5 n6 n7 n8 n9 n10) (pc37 cs ks fs) 8 ns h1
  exact ⟨o, e⟩
end LW
open PySem PySem.W PyProof.Rows
set_option maxRecDepth 100000 in
set_option maxHeartbeats 0 in
theorem PySem.Challenge.cw_stripelay_k37_ways_between_cloths_holds : PySem.Challenge.rw_stripelay_k37_ways_between_cloths.Holds := by
  w_on; o_law; k_head; (case hw => w_witness2)
  k_fill
  refine DL.walk_law (l := PySem.Challenge.rw_stripelay_k37_ways_between_cloths) (k := 42) (x := "_law_script") rfl rfl rfl ⟨rfl, by decide, by decide⟩ (fun w h Y => PySem.W.kIn_of Y) ?F
  case F =>
    intro w mg fa h KX G hmg
    refine' LW.fin LW.run37 KX G hmg ?zqkc0 ?zqki0 ?zqkc1 ?zqki1 ?zqg0 ?zqg1 ?zqg2 ?zqg3 ?zqg4 ?zqg5 ?zqg6 ?zqg7 ?zqg8 ?zqg9 ?zqg10 ?zqg11 ?zqg12 ?zqg13 ?zqg14 ?zqg15 ?zqg16 ?zqg17 ?zqg18 ?zqg19 ?zqg20 ?zqg21 ?zqg22 ?zqg23 ?zqg24 ?zqg25 ?zqg26 ?zqg27 ?zqg28 ?zqg29 ?zqg30 ?zqg31 ?zqg32 ?zqg33 ?zqg34 ?zqg35 ?zqg36 ?zqg37 ?zqg38 ?zqg39 ?zqg40 ?zqg41 ?zqg42 ?zqg43 ?zqg49 ?zqg50 ?zqg54 ?zqg55 ?zqg52 ?zqg53 ?zqg48 ?zqg51 ?zqna0 ?zqna1 ?zqna2 ?zqco0 ?zqco1 ?zqco2 ?zqkd0 ?zqkd1 ?zqbn0 ?zqbn1 ?zqbn2 ?zqbn3 ?zqbn4 ?zqbn5 ?zqbn6 ?zqbn7 ?zqbn8 ?zqbn9 ?zqbn10 ?zqbn11 ?zqbn12 ?zqbn13 ?zqbn14 ?zqbn15 ?zqbn16 ?zqbn17 ?zqbn18 ?zqne1_0 ?zqnf12_11 ?zqnf13_11 ?zqnf13_12 ?zqnf14_11 ?zqnf14_12 ?zqnf14_13 ?zqnf15_11 ?zqnf15_12 ?zqnf15_13 ?zqnf15_14
    (case zqkc0 => refine' ⟨?a, ?b, ?c⟩; (case a => k_is); (case b => k_is); (case c => k_is))
    (case zqki0 => refine' ⟨⟨?a, ?b, ?c, ?d⟩, ?e, ?f, ?g, ?h⟩; (case a => k_is); (case b => k_is); (case c => k_is); (case d => k_is); (case e => k_is); (case f => k_is); (case g => k_is); (case h => k_is))
    (case zqkc1 => refine' ⟨?a, ?b, ?c⟩; (case a => k_is); (case b => k_is); (case c => k_is))
    (case zqki1 => refine' ⟨⟨?a, ?b, ?c, ?d⟩, ?e, ?f, ?g, ?h⟩; (case a => k_is); (case b => k_is); (case c => k_is); (case d => k_is); (case e => k_is); (case f => k_is); (case g => k_is); (case h => k_is))
    (case zqg0 => refine' DL.row_mk ?a ?l ?c ?k; (case a => k_is); (case l => k_is); (case c => k_is); (case k => k_is))
    (case zqg1 => refine' DL.row_mk ?a ?l ?c ?k; (case a => k_is); (case l => k_is); (case c => k_is); (case k => k_is))
    (case zqg2 => refine' DL.row_mk ?a ?l ?c ?k; (case a => k_is); (case l => k_is); (case c => k_is); (case k => k_is))
    (case zqg3 => refine' DL.row_mk ?a ?l ?c ?k; (case a => k_is); (case l => k_is); (case c => k_is); (case k => k_is))
    (case zqg4 => refine' DL.row_mk ?a ?l ?c ?k; (case a => k_is); (case l => k_is); (case c => k_is); (case k => k_is))
    (case zqg5 => refine' DL.row_mk ?a ?l ?c ?k; (case a => k_is); (case l => k_is); (case c => k_is); (case k => k_is))
    (case zqg6 => refine' DL.row_mk ?a ?l ?c ?k; (case a => k_is); (case l => k_is); (case c => k_is); (case k => k_is))
    (case zqg7 => refine' DL.row_mk ?a ?l ?c ?k; (case a => k_is); (case l => k_is); (case c => k_is); (case k => k_is))
    (case zqg8 => refine' DL.row_mk ?a ?l ?c ?k; (case a => k_is); (case l => k_is); (case c => k_is); (case k => k_is))
    (case zqg9 => refine' DL.row_mk ?a ?l ?c ?k; (case a => k_is); (case l => k_is); (case c => k_is); (case k => k_is))
    (case zqg10 => refine' DL.row_mk ?a ?l ?c ?k; (case a => k_is); (case l => k_is); (case c => k_is); (case k => k_is))
    (case zqg11 => refine' DL.rowv_mk ?a ?l ?c ?k; (case a => k_is); (case l => k_is); (case c => k_is); (case k => k_is))
    (case zqg12 => refine' DL.rowv_mk ?a ?l ?c ?k; (case a => k_is); (case l => k_is); (case c => k_is); (case k => k_is))
    (case zqg13 => refine' DL.rowv_mk ?a ?l ?c ?k; (case a => k_is); (case l => k_is); (case c => k_is); (case k => k_is))
    (case zqg14 => refine' DL.rowv_mk ?a ?l ?c ?k; (case a => k_is); (case l => k_is); (case c => k_is); (case k => k_is))
    (case zqg15 => refine' DL.rowv_mk ?a ?l ?c ?k; (case a => k_is); (case l => k_is); (case c => k_is); (case k => k_is))
    (case zqg16 => refine' DL.row_mk ?a ?l ?c ?k; (case a => k_is); (case l => k_is); (case c => k_is); (case k => k_is))
    (case zqg17 => refine' DL.row_mk ?a ?l ?c ?k; (case a => k_is); (case l => k_is); (case c => k_is); (case k => k_is))
    (case zqg18 => refine' DL.row_mk ?a ?l ?c ?k; (case a => k_is); (case l => k_is); (case c => k_is); (case k => k_is))
    (case zqg19 => refine' DL.row_mk ?a ?l ?c ?k; (case a => k_is); (case l => k_is); (case c => k_is); (case k => k_is))
    (case zqg20 => refine' DL.row_mk ?a ?l ?c ?k; (case a => k_is); (case l => k_is); (case c => k_is); (case k => k_is))
    (case zqg21 => refine' DL.row_mk ?a ?l ?c ?k; (case a => k_is); (case l => k_is); (case c => k_is); (case k => k_is))
    (case zqg22 => refine' DL.row_mk ?a ?l ?c ?k; (case a => k_is); (case l => k_is); (case c => k_is); (case k => k_is))
    (case zqg23 => refine' DL.row_mk ?a ?l ?c ?k; (case a => k_is); (case l => k_is); (case c => k_is); (case k => k_is))
    (case zqg24 => refine' DL.row_mk ?a ?l ?c ?k; (case a => k_is); (case l => k_is); (case c => k_is); (case k => k_is))
    (case zqg25 => refine' DL.row_mk ?a ?l ?c ?k; (case a => k_is); (case l => k_is); (case c => k_is); (case k => k_is))
    (case zqg26 => refine' DL.row_mk ?a ?l ?c ?k; (case a => k_is); (case l => k_is); (case c => k_is); (case k => k_is))
    (case zqg27 => refine' DL.row_mk ?a ?l ?c ?k; (case a => k_is); (case l => k_is); (case c => k_is); (case k => k_is))
    (case zqg28 => refine' DL.row_mk ?a ?l ?c ?k; (case a => k_is); (case l => k_is); (case c => k_is); (case k => k_is))
    (case zqg29 => refine' DL.row_mk ?a ?l ?c ?k; (case a => k_is); (case l => k_is); (case c => k_is); (case k => k_is))
    (case zqg30 => refine' DL.row_mk ?a ?l ?c ?k; (case a => k_is); (case l => k_is); (case c => k_is); (case k => k_is))
    (case zqg31 => refine' DL.row_mk ?a ?l ?c ?k; (case a => k_is); (case l => k_is); (case c => k_is); (case k => k_is))
    (case zqg32 => refine' DL.row_mk ?a ?l ?c ?k; (case a => k_is); (case l => k_is); (case c => k_is); (case k => k_is))
    (case zqg33 => refine' DL.row_mk ?a ?l ?c ?k; (case a => k_is); (case l => k_is); (case c => k_is); (case k => k_is))
    (case zqg34 => refine' DL.row_mk ?a ?l ?c ?k; (case a => k_is); (case l => k_is); (case c => k_is); (case k => k_is))
    (case zqg35 => refine' DL.row_mk ?a ?l ?c ?k; (case a => k_is); (case l => k_is); (case c => k_is); (case k => k_is))
    (case zqg36 => refine' DL.row_mk ?a ?l ?c ?k; (case a => k_is); (case l => k_is); (case c => k_is); (case k => k_is))
    (case zqg37 => refine' DL.row_mk ?a ?l ?c ?k; (case a => k_is); (case l => k_is); (case c => k_is); (case k => k_is))
    (case zqg38 => refine' DL.row_mk ?a ?l ?c ?k; (case a => k_is); (case l => k_is); (case c => k_is); (case k => k_is))
    (case zqg39 => refine' DL.row_mk ?a ?l ?c ?k; (case a => k_is); (case l => k_is); (case c => k_is); (case k => k_is))
    (case zqg40 => refine' DL.row_mk ?a ?l ?c ?k; (case a => k_is); (case l => k_is); (case c => k_is); (case k => k_is))
    (case zqg41 => refine' DL.row_mk ?a ?l ?c ?k; (case a => k_is); (case l => k_is); (case c => k_is); (case k => k_is))
    (case zqg42 => refine' DL.row_mk ?a ?l ?c ?k; (case a => k_is); (case l => k_is); (case c => k_is); (case k => k_is))
    (case zqg43 => refine' DL.row_mk ?a ?l ?c ?k; (case a => k_is); (case l => k_is); (case c => k_is); (case k => k_is))
    (case zqg49 => refine' DL.meth_mk ?a ?i ?l ?c ?k; (case a => k_is); (case i => k_is); (case l => k_is); (case c => k_is); (case k => k_is))
    (case zqg50 => refine' DL.meth_mk ?a ?i ?l ?c ?k; (case a => k_is); (case i => k_is); (case l => k_is); (case c => k_is); (case k => k_is))
    (case zqg54 => refine' DL.meth_mk ?a ?i ?l ?c ?k; (case a => k_is); (case i => k_is); (case l => k_is); (case c => k_is); (case k => k_is))
    (case zqg55 => refine' DL.meth_mk ?a ?i ?l ?c ?k; (case a => k_is); (case i => k_is); (case l => k_is); (case c => k_is); (case k => k_is))
    (case zqg52 => refine' DL.meth_mk ?a ?i ?l ?c ?k; (case a => k_is); (case i => k_is); (case l => k_is); (case c => k_is); (case k => k_is))
    (case zqg53 => refine' DL.meth_mk ?a ?i ?l ?c ?k; (case a => k_is); (case i => k_is); (case l => k_is); (case c => k_is); (case k => k_is))
    (case zqg48 => refine' DL.meth_mk ?a ?i ?l ?c ?k; (case a => k_is); (case i => k_is); (case l => k_is); (case c => k_is); (case k => k_is))
    (case zqg51 => refine' DL.initd_mk ?a ?i ?l ?c ?k ?lo ?e0 ?e1; (case a => k_is); (case i => k_is); (case l => k_is); (case c => k_is); (case k => k_is); (case lo => k_is); (case e0 => rfl); (case e1 => rfl))
    (case zqna0 => k_is)
    (case zqna1 => k_is)
    (case zqna2 => k_is)
    (case zqco0 => refine' DL.co_str ?a ?e; (case a => k_is); (case e => exact ⟨_, rfl⟩))
    (case zqco1 => refine' DL.co_int ?a ?e; (case a => k_is); (case e => exact ⟨_, rfl⟩))
    (case zqco2 => refine' DL.co_int ?a ?e; (case a => k_is); (case e => exact ⟨_, rfl⟩))
    (case zqkd0 => refine' DL.kd_mk ?a ?l ?lit ?low ?en ?nd; (case a => k_is); (case l => k_is); (case lit => exact ⟨⟨_, _, rfl, rfl⟩, ⟨⟨_, _, rfl, rfl⟩, ⟨⟨_, _, rfl, rfl⟩, ⟨⟨_, _, rfl, rfl⟩, ⟨⟨_, _, rfl, rfl⟩, ⟨⟨_, _, rfl, rfl⟩, ⟨⟨_, _, rfl, rfl⟩, ⟨⟨_, _, rfl, rfl⟩, trivial⟩⟩⟩⟩⟩⟩⟩⟩); (case low => decide); (case en => refine' (.cons ⟨_, rfl⟩ (DL.krep_ok (.tup ?l0 ?z0 (.cons .bl (.cons .bl (.cons .bl .nil))))) (.cons ⟨_, rfl⟩ (DL.krep_ok (.tup ?l1 ?z1 (.cons .bl (.cons .bl (.cons .bl .nil))))) (.cons ⟨_, rfl⟩ (DL.krep_ok (.tup ?l2 ?z2 (.cons .bl (.cons .bl (.cons .bl .nil))))) (.cons ⟨_, rfl⟩ (DL.krep_ok (.tup ?l3 ?z3 (.cons .bl (.cons .bl (.cons .bl .nil))))) (.cons ⟨_, rfl⟩ (DL.krep_ok (.tup ?l4 ?z4 (.cons .bl (.cons .bl (.cons .bl .nil))))) (.cons ⟨_, rfl⟩ (DL.krep_ok (.tup ?l5 ?z5 (.cons .bl (.cons .bl (.cons .bl .nil))))) (.cons ⟨_, rfl⟩ (DL.krep_ok (.tup ?l6 ?z6 (.cons .bl (.cons .bl (.cons .bl .nil))))) (.cons ⟨_, rfl⟩ (DL.krep_ok (.tup ?l7 ?z7 (.cons .bl (.cons .bl (.cons .bl .nil))))) .nil)))))))); (case l0 => k_is); (case z0 => decide); (case l1 => k_is); (case z1 => decide); (case l2 => k_is); (case z2 => decide); (case l3 => k_is); (case z3 => decide); (case l4 => k_is); (case z4 => decide); (case l5 => k_is); (case z5 => decide); (case l6 => k_is); (case z6 => decide); (case l7 => k_is); (case z7 => decide)); (case nd => exact LW.kn0 _ _ _))
    (case zqkd1 => refine' DL.kd_mk ?a ?l ?lit ?low ?en ?nd; (case a => k_is); (case l => k_is); (case lit => exact ⟨⟨_, _, rfl, rfl⟩, ⟨⟨_, _, rfl, rfl⟩, ⟨⟨_, _, rfl, rfl⟩, ⟨⟨_, _, rfl, rfl⟩, ⟨⟨_, _, rfl, rfl⟩, trivial⟩⟩⟩⟩⟩); (case low => decide); (case en => refine' (.cons ⟨_, rfl⟩ (DL.krep_ok .ref) (.cons ⟨_, rfl⟩ (DL.krep_ok .ref) (.cons ⟨_, rfl⟩ (DL.krep_ok .ref) (.cons ⟨_, rfl⟩ (DL.krep_ok .ref) (.cons ⟨_, rfl⟩ (DL.krep_ok .ref) .nil))))); skip); (case nd => exact LW.kn1 _ _ _))
    (case zqbn0 => k_is)
    (case zqbn1 => k_is)
    (case zqbn2 => k_is)
    (case zqbn3 => k_is)
    (case zqbn4 => k_is)
    (case zqbn5 => k_is)
    (case zqbn6 => k_is)
    (case zqbn7 => k_is)
    (case zqbn8 => k_is)
    (case zqbn9 => k_is)
    (case zqbn10 => k_is)
    (case zqbn11 => k_is)
    (case zqbn12 => k_is)
    (case zqbn13 => k_is)
    (case zqbn14 => k_is)
    (case zqbn15 => k_is)
    (case zqbn16 => k_is)
    (case zqbn17 => k_is)
    (case zqbn18 => k_is)
    (case zqne1_0 => decide)
    (case zqnf12_11 => decide)
    (case zqnf13_11 => decide)
    (case zqnf13_12 => decide)
    (case zqnf14_11 => decide)
    (case zqnf14_12 => decide)
    (case zqnf14_13 => decide)
    (case zqnf15_11 => decide)
    (case zqnf15_12 => decide)
    (case zqnf15_13 => decide)
    (case zqnf15_14 => decide)
