import PyProof.Rows.All
import Wide.All
import OpenK.AllK
import Wide.FinOn
import KE.KStateDown
import Lean
import HandS.ForMost
import HandS.ForExc
import HandS.More
import HandS.Defaults
import HandS.IsInst
import HandS.Zip
import HandS.ListItems
import HandS.Conv
import HandS.SortInts
import HandS.WideMore
import HandS.HeadHook4
import HandS.TupAny
import HandS.Keys
import HandS.SortRule
import HandS.DictTup
import HandS.SetFor
import HandS.Strs
import HandS.Head0
import HandS.Head1
import HandS.Head2
import HandS.HeadEnd
import HandS.HeadHook1
import HandS.HeadHook2
import HandS.HeadHook3
import PySem.Challenge.RW_toldmoment_k05_whole_what_lies_under_key
set_option Elab.async false
set_option linter.all false
set_option maxRecDepth 100000
section
set_option maxHeartbeats 4000000
/-! Dl: a layer over the hand layer in which tuples are values: data D, mutable things G. -/
namespace Dl
open PySem PySem.Spec PyProof.Rows L2

/-! ### data -/
inductive D where
  | non | bl (b : Bool) | int (i : Int) | str (s : Str) | ty (n : String)
  | tup (ds : List D) | lst (ds : List D) | dic (kvs : List (Key × D)) | ref (a : Addr)

inductive MO where
  | lst (ds : List D) | dic (kvs : List (Key × D))

abbrev Gp := Addr → Option MO
def updG (G : Gp) (a : Addr) (m : MO) : Gp := fun b => if b = a then some m else G b
def delG (G : Gp) (a : Addr) : Gp := fun b => if b = a then none else G b
@[simp] theorem updG_same {G : Gp} {a : Addr} {m : MO} : updG G a m a = some m := by unfold updG; rw [if_pos rfl]
theorem updG_ne {G : Gp} {a b : Addr} {m : MO} (h : b ≠ a) : updG G a m b = G b := by unfold updG; rw [if_neg h]
theorem delG_same {G : Gp} {a : Addr} : delG G a a = none := by unfold delG; rw [if_pos rfl]
theorem delG_ne {G : Gp} {a b : Addr} (h : b ≠ a) : delG G a b = G b := by unfold delG; rw [if_neg h]
theorem del_upd {G : Gp} {a : Addr} {m : MO} (h : G a = none) : delG (updG G a m) a = G := by
  funext b
  by_cases hb : b = a
  · subst hb; rw [delG_same, h]
  · rw [delG_ne hb, updG_ne hb]
theorem upd_upd {G : Gp} {a : Addr} {m n : MO} : updG (updG G a m) a n = updG G a n := by
  funext b; unfold updG; split <;> rfl

def okS (s : Str) : Prop := s.length ≤ sizeLine ∧ PyData.strOk s = true
def okK : Key → Prop
  | .inl _ => True
  | .inr s => okS s

/-- a list that never changes: locked, or of the written part -/
def FzL (K : PySem.W.Frag) (H : Hp) (a : Addr) (xs : List V) : Prop :=
  (∃ o, H a = some (.frz o (.lst xs))) ∨
    ∃ (o : Obj) (its : Array Value) (n : Nat), K.lookup a = some o ∧ o.cls = .type "list" ∧ o.dict = none ∧ o.data = .seq its n ∧ its.size ≤ sizeLine ∧ Vals xs its.toList
theorem FzL.seq {K : PySem.W.Frag} {H : Hp} {a : Addr} {xs : List V} (h : FzL K H a xs) : SqL K H a xs := by
  rcases h with ⟨o, h⟩ | h
  · exact .inl (.inr ⟨o, h⟩)
  · exact .inr h

mutual
inductive RD (K : PySem.W.Frag) (H : Hp) : V → D → Prop
  | non : RD K H .non .non
  | bl (b : Bool) : RD K H (.bl b) (.bl b)
  | int (i : Int) : RD K H (.int i) (.int i)
  | str {x : Str} : okS x → RD K H (.str x) (.str x)
  | ty (n : String) : RD K H (.ty n) (.ty n)
  | ref (a : Addr) : RD K H (.ref a) (.ref a)
  | tup {a : Addr} {xs : List V} {ds : List D} : SqT K H a xs → RDs K H xs ds → RD K H (.ref a) (.tup ds)
  | lst {a : Addr} {xs : List V} {ds : List D} : FzL K H a xs → RDs K H xs ds → RD K H (.ref a) (.lst ds)
  | dic {a : Addr} {o : Obj} {kvs : List (Key × V)} {kds : List (Key × D)} : H a = some (.frz o (.dK kvs)) → RDk K H kvs kds → RD K H (.ref a) (.dic kds)
inductive RDs (K : PySem.W.Frag) (H : Hp) : List V → List D → Prop
  | nil : RDs K H [] []
  | cons {v : V} {vs : List V} {d : D} {ds : List D} : RD K H v d → RDs K H vs ds → RDs K H (v :: vs) (d :: ds)
inductive RDk (K : PySem.W.Frag) (H : Hp) : List (Key × V) → List (Key × D) → Prop
  | nil : RDk K H [] []
  | cons {k : Key} {v : V} {vs : List (Key × V)} {d : D} {ds : List (Key × D)} : okK k → RD K H v d → RDk K H vs ds → RDk K H ((k, v) :: vs) ((k, d) :: ds)
end

/-- tuples and locked things stay -/
def Sb (K : PySem.W.Frag) (H H' : Hp) : Prop := (∀ a xs, H a = some (.tup xs) → H' a = some (.tup xs)) ∧ ∀ a o u, H a = some (.frz o u) → H' a = some (.frz o u)
section
variable {K : PySem.W.Frag} {H H' H1 H2 : Hp} {a p : Addr} {v : V} {d : D}
theorem Sb.refl : Sb K H H := ⟨fun _ _ h => h, fun _ _ _ h => h⟩
theorem Sb.trans (x : Sb K H H1) (y : Sb K H1 H2) : Sb K H H2 := ⟨fun a xs h => y.1 a xs (x.1 a xs h), fun a o u h => y.2 a o u (x.2 a o u h)⟩
theorem Sb.rd {u : HO} (s : Sb K H H') (h : Rd H a u) (hu : ∀ xs, u = .tup xs → True) (ht : (∃ xs, u = .tup xs) ∨ ∃ o, H a = some (.frz o u)) : Rd H' a u := by
  rcases ht with ⟨xs, rfl⟩ | ⟨o, e⟩
  · rcases h with h | ⟨o, h⟩
    · exact .inl (s.1 _ _ h)
    · exact .inr ⟨o, s.2 _ _ _ h⟩
  · exact .inr ⟨o, s.2 _ _ _ e⟩
theorem Sb.t {xs : List V} (s : Sb K H H') (h : SqT K H a xs) : SqT K H' a xs := by
  rcases h with (h | ⟨o, h⟩) | h
  · exact .inl (.inl (s.1 _ _ h))
  · exact .inl (.inr ⟨o, s.2 _ _ _ h⟩)
  · exact .inr h
theorem Sb.l {xs : List V} (s : Sb K H H') (h : FzL K H a xs) : FzL K H' a xs := by
  rcases h with ⟨o, h⟩ | h
  · exact .inl ⟨o, s.2 _ _ _ h⟩
  · exact .inr h
mutual
theorem RD.sb (s : Sb K H H') : ∀ {v : V} {d : D}, RD K H v d → RD K H' v d
  | _, _, .non => .non
  | _, _, .bl b => .bl b
  | _, _, .int i => .int i
  | _, _, .str h => .str h
  | _, _, .ty n => .ty n
  | _, _, .ref a => .ref a
  | _, _, .tup h r => .tup (s.t h) (RDs.sb s r)
  | _, _, .lst h r => .lst (s.l h) (RDs.sb s r)
  | _, _, .dic h r => .dic (s.2 _ _ _ h) (RDk.sb s r)
theorem RDs.sb (s : Sb K H H') : ∀ {vs : List V} {ds : List D}, RDs K H vs ds → RDs K H' vs ds
  | _, _, .nil => .nil
  | _, _, .cons h r => .cons (RD.sb s h) (RDs.sb s r)
theorem RDk.sb (s : Sb K H H') : ∀ {vs : List (Key × V)} {ds : List (Key × D)}, RDk K H vs ds → RDk K H' vs ds
  | _, _, .nil => .nil
  | _, _, .cons k h r => .cons k (RD.sb s h) (RDk.sb s r)
end
theorem RDs.length : ∀ {vs : List V} {ds : List D}, RDs K H vs ds → vs.length = ds.length
  | _, _, .nil => rfl
  | _, _, .cons _ r => by rw [List.length_cons, List.length_cons, RDs.length r]
theorem RDk.length : ∀ {vs : List (Key × V)} {ds : List (Key × D)}, RDk K H vs ds → vs.length = ds.length
  | _, _, .nil => rfl
  | _, _, .cons _ _ r => by rw [List.length_cons, List.length_cons, RDk.length r]
theorem RDs.get : ∀ {vs : List V} {ds : List D} {i : Nat} {d : D}, RDs K H vs ds → ds[i]? = some d → ∃ v, vs[i]? = some v ∧ RD K H v d
  | _, _, _, _, .nil, e => by simp at e
  | _, _, 0, _, .cons r _, e => by simp at e; subst e; exact ⟨_, rfl, r⟩
  | _, _, i + 1, d, .cons _ t, e => by
    obtain ⟨u, h1, h2⟩ := RDs.get (i := i) (d := d) t (by simpa using e)
    exact ⟨u, by simpa using h1, h2⟩
theorem RDs.getV : ∀ {vs : List V} {ds : List D} {i : Nat} {v : V}, RDs K H vs ds → vs[i]? = some v → ∃ d, ds[i]? = some d ∧ RD K H v d
  | _, _, _, _, .nil, e => by simp at e
  | _, _, 0, _, .cons r _, e => by simp at e; subst e; exact ⟨_, rfl, r⟩
  | _, _, i + 1, d, .cons _ t, e => by
    obtain ⟨u, h1, h2⟩ := RDs.getV (i := i) (v := d) t (by simpa using e)
    exact ⟨u, by simpa using h1, h2⟩
theorem RDs.append : ∀ {vs ws : List V} {ds es : List D}, RDs K H vs ds → RDs K H ws es → RDs K H (vs ++ ws) (ds ++ es)
  | _, _, _, _, .nil, s => s
  | _, _, _, _, .cons r t, s => .cons r (RDs.append t s)
theorem RDs.take : ∀ {vs : List V} {ds : List D} (n : Nat), RDs K H vs ds → RDs K H (vs.take n) (ds.take n)
  | _, _, 0, _ => .nil
  | _, _, _ + 1, .nil => .nil
  | _, _, n + 1, .cons r t => .cons r (RDs.take n t)
theorem RDs.drop : ∀ {vs : List V} {ds : List D} (n : Nat), RDs K H vs ds → RDs K H (vs.drop n) (ds.drop n)
  | _, _, 0, r => r
  | _, _, _ + 1, .nil => .nil
  | _, _, n + 1, .cons _ t => RDs.drop n t
theorem RDs.set {v : V} {d : D} (r : RD K H v d) : ∀ {vs : List V} {ds : List D} (i : Nat), RDs K H vs ds → RDs K H (vs.set i v) (ds.set i d)
  | _, _, _, .nil => .nil
  | _, _, 0, .cons _ t => .cons r t
  | _, _, i + 1, .cons q t => .cons q (RDs.set r i t)
theorem RDs.erase : ∀ {vs : List V} {ds : List D} (i : Nat), RDs K H vs ds → RDs K H (vs.eraseIdx i) (ds.eraseIdx i)
  | _, _, _, .nil => .nil
  | _, _, 0, .cons _ t => t
  | _, _, i + 1, .cons q t => .cons q (RDs.erase i t)
theorem RDs.dropLast {vs : List V} {ds : List D} (h : RDs K H vs ds) : RDs K H vs.dropLast ds.dropLast := by
  rw [List.dropLast_eq_take, List.dropLast_eq_take, h.length]
  exact h.take _
end

def RM (K : PySem.W.Frag) (H : Hp) (a : Addr) : MO → Prop
  | .lst ds => ∃ vs, H a = some (.lst vs) ∧ RDs K H vs ds
  | .dic kds => ∃ kvs, H a = some (.dK kvs) ∧ RDk K H kvs kds
def Gd (K : PySem.W.Frag) (G : Gp) (H : Hp) : Prop := ∀ a m, G a = some m → RM K H a m

section
variable {K : PySem.W.Frag} {G G' G1 G2 : Gp} {H H' H1 H2 : Hp} {a p : Addr} {v : V} {d : D} {m : MO} {o : HO}
theorem RM.some (h : RM K H a m) : ∃ u, H a = some u ∧ Mut (some u) ∧ (∀ xs, u ≠ .tup xs) ∧ ∀ o w, u ≠ .frz o w := by
  cases m with
  | lst ds => obtain ⟨vs, e, _⟩ := h; exact ⟨_, e, trivial, fun _ z => (nomatch z), fun _ _ z => (nomatch z)⟩
  | dic ds => obtain ⟨vs, e, _⟩ := h; exact ⟨_, e, trivial, fun _ z => (nomatch z), fun _ _ z => (nomatch z)⟩
theorem RM.sb (s : Sb K H H') (e : H' a = H a) (h : RM K H a m) : RM K H' a m := by
  cases m with
  | lst ds => obtain ⟨vs, q, r⟩ := h; exact ⟨vs, e.trans q, r.sb s⟩
  | dic ds => obtain ⟨vs, q, r⟩ := h; exact ⟨vs, e.trans q, r.sb s⟩
structure Go (K : PySem.W.Frag) (G : Gp) (H : Hp) (G' : Gp) (H' : Hp) : Prop where
  fr : ∀ a u, H a = some u → G a = none → H' a = some u
  nw : ∀ a, H a ≠ none → G a = none → G' a = none
  th : ∀ a, H' a = none → H a = none
  gd : Gd K G' H'
theorem Gd.none_of (g : Gd K G H) (h : H a = none) : G a = none := by
  cases e : G a with
  | none => rfl
  | some m =>
    obtain ⟨u, q, _⟩ := (g a m e).some
    rw [h] at q; cases q
theorem Gd.tup (g : Gd K G H) {xs : List V} (h : H a = some (.tup xs)) : G a = none := by
  cases e : G a with
  | none => rfl
  | some m =>
    obtain ⟨u, q, _, n, _⟩ := (g a m e).some
    rw [h] at q; cases q
    exact (n _ rfl).elim
theorem Gd.frz (g : Gd K G H) {o : Obj} {u : HO} (h : H a = some (.frz o u)) : G a = none := by
  cases e : G a with
  | none => rfl
  | some m =>
    obtain ⟨u, q, _, _, n⟩ := (g a m e).some
    rw [h] at q; cases q
    exact (n _ _ rfl).elim
theorem Go.sb (g : Gd K G H) (x : Go K G H G' H') : Sb K H H' := ⟨fun a xs h => x.fr a _ h (g.tup h), fun a o u h => x.fr a _ h (g.frz h)⟩
theorem Go.refl (g : Gd K G H) : Go K G H G H := ⟨fun _ _ h _ => h, fun _ _ h => h, fun _ h => h, g⟩
theorem th_upd (h : ∀ u, H p = some u → True) (a : Addr) (e : upd H p o a = none) : H a = none := by
  by_cases ha : a = p
  · rw [ha, upd_same] at e; cases e
  · rw [upd_ne ha] at e; exact e
theorem Go.trans (x : Go K G H G1 H1) (y : Go K G1 H1 G2 H2) : Go K G H G2 H2 := by
  have key : ∀ a u, H a = some u → G a = none → H1 a = some u ∧ G1 a = none := fun a u h n => ⟨x.fr a u h n, x.nw a (by rw [h]; exact fun z => nomatch z) n⟩
  refine ⟨fun a u h n => y.fr a u (key a u h n).1 (key a u h n).2, fun a h n => ?_, fun a h => x.th a (y.th a h), y.gd⟩
  cases e : H a with
  | none => exact (h e).elim
  | some u =>
    obtain ⟨q1, q2⟩ := key a u e n
    exact y.nw a (by rw [q1]; exact fun z => nomatch z) q2
theorem Gd.sub (g : Gd K G H) (s : Sb K H H') (k : ∀ a, G a ≠ none → H' a = H a) : Gd K G H' := fun a m e => (g a m e).sb s (k a (by rw [e]; exact fun z => nomatch z))
theorem sb_new (h : H p = none) : Sb K H (upd H p o) := ⟨fun a xs e => by rw [upd_ne (ne_of_none e h)]; exact e, fun a ob u e => by rw [upd_ne (ne_of_none e h)]; exact e⟩
/-- something new, not told -/
theorem Go.new (g : Gd K G H) (h : H p = none) : Go K G H G (upd H p o) :=
  ⟨fun a u e _ => by rw [upd_ne (ne_of_none e h)]; exact e, fun _ _ e => e, th_upd fun _ _ => trivial, g.sub (sb_new h) fun a n => by
    refine upd_ne fun z => ?_
    subst z
    exact n (g.none_of h)⟩
/-- something new, told -/
theorem Go.alloc (g : Gd K G H) (h : H p = none) (r : RM K (upd H p o) p m) : Go K G H (updG G p m) (upd H p o) := by
  refine ⟨fun a u e _ => by rw [upd_ne (ne_of_none e h)]; exact e, fun a e n => ?_, th_upd fun _ _ => trivial, fun a n e => ?_⟩
  · rw [updG_ne (fun z => e (by rw [z]; exact h))]; exact n
  · by_cases ha : a = p
    · subst ha
      rw [updG_same] at e; cases e
      exact r
    · rw [updG_ne ha] at e
      exact (g a n e).sb (sb_new h) (upd_ne ha)
theorem sb_write (g : Gd K G H) (e : G a = some m) : Sb K H (upd H a o) := by
  refine ⟨fun b xs q => ?_, fun b ob u q => ?_⟩
  · have hb : b ≠ a := fun z => by
      subst z
      rw [g.tup q] at e
      cases e
    rw [upd_ne hb]; exact q
  · have hb : b ≠ a := fun z => by
      subst z
      rw [g.frz q] at e
      cases e
    rw [upd_ne hb]; exact q
/-- a told thing is written -/
theorem Go.write {m' : MO} (g : Gd K G H) (e : G a = some m) (r : RM K (upd H a o) a m') : Go K G H (updG G a m') (upd H a o) := by
  refine ⟨fun b u q n => ?_, fun b _ n => ?_, th_upd fun _ _ => trivial, fun b n q => ?_⟩
  · rw [upd_ne (fun z => by subst z; rw [n] at e; cases e)]; exact q
  · rw [updG_ne (fun z => by subst z; rw [n] at e; cases e)]; exact n
  · by_cases hb : b = a
    · subst hb
      rw [updG_same] at q; cases q
      exact r
    · rw [updG_ne hb] at q
      exact (g b n q).sb (sb_write g e) (upd_ne hb)
/-- a told thing is locked: it is data from now on -/
theorem Go.lock {u : HO} {ob : Obj} (g : Gd K G H) (e : G a = some m) (h : H a = some u) : Go K G H (delG G a) (upd H a (.frz ob u)) := by
  refine ⟨fun b u q n => ?_, fun b _ n => ?_, th_upd fun _ _ => trivial, fun b n q => ?_⟩
  · rw [upd_ne (fun z => by subst z; rw [n] at e; cases e)]; exact q
  · by_cases hb : b = a
    · rw [hb]; exact delG_same
    · rw [delG_ne hb]; exact n
  · by_cases hb : b = a
    · rw [hb, delG_same] at q; cases q
    · rw [delG_ne hb] at q
      exact (g b n q).sb (sb_write g e) (upd_ne hb)
/-- what is told may be forgotten -/
theorem Go.forget (x : Go K G H G1 H1) (h : ∀ a m, G2 a = some m → G1 a = some m) : Go K G H G2 H1 :=
  ⟨x.fr, fun a e n => by
    cases q : G2 a with
    | none => rfl
    | some m =>
      have z := h a m q
      rw [x.nw a e n] at z
      exact z.symm, x.th, fun a m e => x.gd a m (h a m e)⟩
end
end Dl

end
section
set_option maxHeartbeats 4000000
namespace Dl
open PySem PySem.Spec PyProof.Rows L2

/-! ### judgements over data -/
abbrev Sd := List (Option D)
abbrev KD := D → Gp → Prop
abbrev KDs := List D → Gp → Prop
abbrev DE := Sd → Gp → KD → Prop
abbrev DT := Sd → Gp → (Bool → Gp → Prop) → Prop
abbrev DA := Sd → Gp → KDs → Prop
abbrev DK := Sd → Gp → (List (Key × D) → Gp → Prop) → Prop

structure RE (K : PySem.W.Frag) (H : Hp) (σ : L2.St) (σd : Sd) : Prop where
  len : σ.length = σd.length
  get : ∀ (i : Nat) (d : D), σd[i]? = some (some d) → ∃ v, σ[i]? = some (some v) ∧ RD K H v d
section
variable {K : PySem.W.Frag} {H H' : Hp} {σ : L2.St} {σd : Sd}
theorem RE.sb (r : RE K H σ σd) (s : Sb K H H') : RE K H' σ σd := ⟨r.len, fun i d h => let ⟨v, e, q⟩ := r.get i d h; ⟨v, e, q.sb s⟩⟩
theorem RE.set (r : RE K H σ σd) {v : V} {d : D} (h : RD K H v d) (i : Nat) : RE K H (σ.set i (some v)) (σd.set i (some d)) := by
  refine ⟨by rw [List.length_set, List.length_set]; exact r.len, fun j e q => ?_⟩
  by_cases hj : j = i
  · subst hj
    have hl : j < σd.length := by
      have := (List.getElem?_eq_some_iff.mp q).1
      simpa using this
    rw [List.getElem?_set_self hl] at q
    cases q
    exact ⟨v, List.getElem?_set_self (by rw [r.len]; exact hl), h⟩
  · rw [List.getElem?_set_ne (Ne.symm hj)] at q ⊢
    exact r.get j e q
theorem RE.setN (r : RE K H σ σd) (i : Nat) : RE K H (σ.set i none) (σd.set i none) := by
  refine ⟨by rw [List.length_set, List.length_set]; exact r.len, fun j e q => ?_⟩
  by_cases hj : j = i
  · subst hj
    have hl : j < σd.length := by
      have := (List.getElem?_eq_some_iff.mp q).1
      simpa using this
    rw [List.getElem?_set_self hl] at q
    cases q
  · rw [List.getElem?_set_ne (Ne.symm hj)] at q ⊢
    exact r.get j e q
@[simp] def wipeD (σ : Sd) : List Nat → Sd
  | [] => σ
  | v :: vs => (wipeD σ vs).set v none
theorem RE.wipe (r : RE K H σ σd) : ∀ vs : List Nat, RE K H (wipe σ vs) (wipeD σd vs)
  | [] => r
  | v :: vs => (RE.wipe r vs).setN v
end

section
variable (K : PySem.W.Frag)
def AbE (te : TE) (de : DE) : Prop := ∀ G H σ σd (Qd : KD) (Q : VK), Gd K G H → RE K H σ σd → de σd G Qd → (∀ v d G' H', Go K G H G' H' → RD K H' v d → Qd d G' → Q v H') → te σ H Q
def AbT (tt : TT) (dt : DT) : Prop := ∀ G H σ σd (Qd : Bool → Gp → Prop) (Q : Bool → Hp → Prop), Gd K G H → RE K H σ σd → dt σd G Qd → (∀ b G' H', Go K G H G' H' → Qd b G' → Q b H') → tt σ H Q
def AbA (ta : TA) (da : DA) : Prop := ∀ G H σ σd (Qd : KDs) (Q : List V → Hp → Prop), Gd K G H → RE K H σ σd → da σd G Qd → (∀ vs ds G' H', Go K G H G' H' → RDs K H' vs ds → Qd ds G' → Q vs H') → ta σ H Q
/-- a new list that is not told yet -/
def AbL (te : TE) (dl : DA) : Prop := ∀ G H σ σd (Qd : KDs) (Q : VK), Gd K G H → RE K H σ σd → dl σd G Qd →
  (∀ p vs ds G' H', Go K G H G' H' → G' p = none → H p = none → H' p = some (.lst vs) → RDs K H' vs ds → Qd ds G' → Q (.ref p) H') → te σ H Q
/-- a new dict that is not told yet -/
def AbK (te : TE) (dk : DK) : Prop := ∀ G H σ σd (Qd : List (Key × D) → Gp → Prop) (Q : VK), Gd K G H → RE K H σ σd → dk σd G Qd →
  (∀ p vs ds G' H', Go K G H G' H' → G' p = none → H p = none → H' p = some (.dK vs) → RDk K H' vs ds → Qd ds G' → Q (.ref p) H') → te σ H Q
end
def PD (X : Cx) (e : Expr) (de : DE) : Prop := ∃ te, PE X e te ∧ AbE X.K te de
def PDt (X : Cx) (e : Expr) (dt : DT) : Prop := ∃ tt, PT X e tt ∧ AbT X.K tt dt
def PDw (X : Cx) (e : Expr) (dt : DT) : Prop := ∃ tt, PW X e tt ∧ AbT X.K tt dt
def PDa (X : Cx) (es : List Expr) (da : DA) : Prop := ∃ ta, PA X es ta ∧ AbA X.K ta da
def PDl (X : Cx) (e : Expr) (dl : DA) : Prop := ∃ te, PE X e te ∧ AbL X.K te dl
def PDk (X : Cx) (e : Expr) (dk : DK) : Prop := ∃ te, PE X e te ∧ AbK X.K te dk

/-! ### names, constants -/
section
variable {X : Cx} {pos : Pos}
@[simp] def dVar (i : Nat) : DE := fun σ G Q => ∃ d, σ[i]? = some (some d) ∧ Q d G
@[simp] def dC (d : D) : DE := fun _ G Q => Q d G
theorem abC {K : PySem.W.Frag} {v : V} {d : D} (h : ∀ H, RD K H v d) : AbE K (tC v) (dC d) := fun G H σ σd Qd Q g r h1 k => k v d G H (.refl g) (h H) h1
theorem pdv (i : Nat) {x : Str} (hN : X.N[i]? = some x := by rfl) (hv : Vis X.env.scope x := by first | exact Or.inl rfl | exact Or.inr (Or.inl rfl) | exact Or.inr (Or.inr rfl)) (hd : (x == ("__debug__" : Str)) = false := by decide)
    (hcd : (x == ("__classdict__" : Str)) = false := by decide) : PD X (.Name x pos) (dVar i) :=
  ⟨_, pe_var hN hv hd hcd, fun G H σ σd Qd Q g r ⟨d, e, q⟩ k => let ⟨v, ev, rv⟩ := r.get i d e; ⟨v, ev, k v d G H (.refl g) rv q⟩⟩
theorem pd_int {i j} : PD X (.Constant (.int i) j pos) (dC (.int i)) := ⟨_, pe_int, abC fun _ => .int i⟩
theorem pd_bl {b j} : PD X (.Constant (.bool b) j pos) (dC (.bl b)) := ⟨_, pe_bl, abC fun _ => .bl b⟩
theorem pd_non {j} : PD X (.Constant .none j pos) (dC .non) := ⟨_, pe_non, abC fun _ => .non⟩
theorem okS_of {s : Str} (h : (decide (s.length ≤ sizeLine) && PyData.strOk s) = true) : okS s := by
  rw [Bool.and_eq_true] at h
  exact ⟨of_decide_eq_true h.1, h.2⟩
theorem pd_str {x j} (h : (decide (x.length ≤ sizeLine) && PyData.strOk x) = true := by decide +kernel) : PD X (.Constant (.str x) j pos) (dC (.str x)) := ⟨_, pe_str, abC fun _ => .str (okS_of h)⟩
/-- a global constant -/
theorem pd_gint {x : Str} {i : Int} (hg : Gl X x) (hm : ∃ t, X.mg x = some (.int i t)) (hd : (x == ("__debug__" : Str)) = false := by decide) : PD X (.Name x pos) (dC (.int i)) := by
  obtain ⟨t, hm⟩ := hm
  exact ⟨_, pe_glob (v := .int i) hg hm ⟨t, rfl⟩ hd, abC fun _ => .int i⟩
theorem pd_gstr {x z : Str} (hg : Gl X x) (hm : ∃ t, X.mg x = some (.str z t)) (hd : (x == ("__debug__" : Str)) = false := by decide) (h : (decide (z.length ≤ sizeLine) && PyData.strOk z) = true := by decide +kernel) : PD X (.Name x pos) (dC (.str z)) := by
  obtain ⟨t, hm⟩ := hm
  exact ⟨_, pe_glob (v := .str z) hg hm ⟨t, rfl⟩ hd, abC fun _ => .str (okS_of h)⟩
/-- any global that stands for data -/
theorem pd_glo {x : Str} {a : Addr} {d : D} (hg : Gl X x) (hm : X.mg x = some (.ref a)) (r : ∀ H, RD X.K H (.ref a) d) (hd : (x == ("__debug__" : Str)) = false := by decide) : PD X (.Name x pos) (dC d) :=
  ⟨_, pe_glob (v := .ref a) hg hm rfl hd, abC r⟩
theorem pd_ty {x : Str} {n : String} (hg : Gl X x) (hm : X.mg x = none) (hv : bootBuiltins x = some (.type n) := by decide +kernel) (hn : x ≠ "__name__" := by decide) (hd : (x == ("__debug__" : Str)) = false := by decide) : PD X (.Name x pos) (dC (.ty n)) :=
  ⟨_, pe_bltn (v := .ty n) hg hm hv rfl hn hd, abC fun _ => .ty n⟩
end

/-! ### operators by values -/
abbrev D2 := D → D → Gp → KD → Prop
def Ab2 (K : PySem.W.Frag) (r : R2) (rd : D2) : Prop := ∀ G H x y d e (Qd : KD) (Q : VK), Gd K G H → RD K H x d → RD K H y e → rd d e G Qd → (∀ v d' G' H', Go K G H G' H' → RD K H' v d' → Qd d' G' → Q v H') → r x y H Q
@[simp] def dOp (rd : D2) (da db : DE) : DE := fun σ G Q => da σ G fun x G1 => db σ G1 fun y G2 => rd x y G2 Q
section
variable {K : PySem.W.Frag} {ta tb tc : TE} {da db dc : DE} {r r' : R2} {rd rd' : D2}
theorem AbE.op (ha : AbE K ta da) (hb : AbE K tb db) (hr : Ab2 K r rd) : AbE K (tOp r ta tb) (dOp rd da db) := fun G H σ σd Qd Q g re h k =>
  ha G H σ σd _ _ g re h fun x d G1 H1 o1 r1 q1 => hb G1 H1 σ σd _ _ o1.gd (re.sb (o1.sb g)) q1 fun y e G2 H2 o2 r2 q2 =>
    hr G2 H2 x y d e _ _ o2.gd (r1.sb (o2.sb o1.gd)) r2 q2 fun v d' G' H' o3 r3 q3 => k v d' G' H' ((o1.trans o2).trans o3) r3 q3
def rOr (r r' : R2) : R2 := fun x y H Q => r x y H Q ∨ r' x y H Q
end
def isIntD : D → Bool
  | .int _ => true
  | _ => false
@[simp] def rAddD : D2
  | .int i, .int j, G, Q => Q (.int (i + j)) G
  | .str i, .str j, G, Q => (i.length + j.length ≤ sizeLine) ∧ Q (.str (i ++ j)) G
  | _, _, _, _ => False
@[simp] def rSubD : D2
  | .int i, .int j, G, Q => Q (.int (i - j)) G
  | _, _, _, _ => False
@[simp] def rMulD : D2
  | .int i, .int j, G, Q => CMul i j ∧ Q (.int (i * j)) G
  | _, _, _, _ => False
def rMulWD : D2
  | .int i, .int j, G, Q => IntMulOk i j ∧ Q (.int (i * j)) G
  | _, _, _, _ => False
@[simp] def rModD : D2
  | .int i, .int j, G, Q => 0 < j ∧ Q (.int (i % j)) G
  | _, _, _, _ => False
@[simp] def rDivD : D2
  | .int i, .int j, G, Q => CDiv i j ∧ Q (.int (i / j)) G
  | _, _, _, _ => False
@[simp] def rPowD : D2
  | .int i, .int j, G, Q => CPow i j ∧ Q (.int (i ^ j.toNat)) G
  | _, _, _, _ => False
theorem okS_app {i j : Str} (hi : okS i) (hj : okS j) (h : i.length + j.length ≤ sizeLine) : okS (i ++ j) := by
  obtain ⟨⟨a⟩⟩ := i
  obtain ⟨⟨b⟩⟩ := j
  have e : ((⟨⟨a⟩⟩ : Str) ++ (⟨⟨b⟩⟩ : Str)) = (⟨⟨a ++ b⟩⟩ : Str) := by
    show Str.append _ _ = _
    first | rfl | simp [Str.append]
  refine ⟨?_, ?_⟩
  · rw [e]
    show (⟨a ++ b⟩ : Array Nat).size ≤ sizeLine
    have : (⟨a⟩ : Array Nat).size + (⟨b⟩ : Array Nat).size ≤ sizeLine := h
    simpa using this
  · rw [e]
    have h1 : (⟨a⟩ : Array Nat).all (· < 0x110000) = true := hi.2
    have h2 : (⟨b⟩ : Array Nat).all (· < 0x110000) = true := hj.2
    show (⟨a ++ b⟩ : Array Nat).all (· < 0x110000) = true
    simp only [List.all_toArray, List.all_append, Bool.and_eq_true] at h1 h2 ⊢
    exact ⟨h1, h2⟩
section
variable {X : Cx} {pos : Pos} {a b c : Expr} {da db dc : DE}
def op_orR {f : Value → Value → Sem Value} {r r' : R2} (h : OpR X f r) (h' : OpR X f r') : OpR X f (rOr r r') := h.or h'
theorem pd_op {op : Operator} {r : R2} {rd : D2} (ho : OpR X (binaryOp op) r) (hr : Ab2 X.K r rd) (ha : PD X a da) (hb : PD X b db) : PD X (.BinOp a op b pos) (dOp rd da db) :=
  let ⟨_, h1, q1⟩ := ha; let ⟨_, h2, q2⟩ := hb; ⟨_, pe_op ho h1 h2, AbE.op q1 q2 hr⟩
theorem abI0 {K : PySem.W.Frag} {g : Int → Int → Int} {rd : D2} (h : ∀ x y G Q, rd x y G Q → ∃ i j, x = .int i ∧ y = .int j ∧ Q (.int (g i j)) G) : Ab2 K (rI0 fun i j => .int (g i j)) rd := by
  intro G H x y d e Qd Q gd rx ry hr k
  obtain ⟨i, j, rfl, rfl, q⟩ := h d e G Qd hr
  cases rx; cases ry
  exact ⟨i, j, rfl, rfl, k _ _ G H (.refl gd) (.int _) q⟩
theorem abI {K : PySem.W.Frag} {C : Int → Int → Prop} {g : Int → Int → Int} {rd : D2} (h : ∀ x y G Q, rd x y G Q → ∃ i j, x = .int i ∧ y = .int j ∧ C i j ∧ Q (.int (g i j)) G) : Ab2 K (rI C fun i j => .int (g i j)) rd := by
  intro G H x y d e Qd Q gd rx ry hr k
  obtain ⟨i, j, rfl, rfl, hc, q⟩ := h d e G Qd hr
  cases rx; cases ry
  exact ⟨i, j, rfl, rfl, hc, k _ _ G H (.refl gd) (.int _) q⟩
theorem ab_add {K : PySem.W.Frag} : Ab2 K (rOr (rI0 fun i j => .int (i + j)) (fun x y H Q => ∃ i j, x = .str i ∧ y = .str j ∧ i.length + j.length ≤ sizeLine ∧ Q (.str (i ++ j)) H)) rAddD := by
  intro G H x y d e Qd Q gd rx ry hr k
  cases d <;> cases e <;> first | exact hr.elim | skip
  · cases rx; cases ry
    exact .inl ⟨_, _, rfl, rfl, k _ _ G H (.refl gd) (.int _) hr⟩
  · cases rx with
    | str hx => cases ry with
      | str hy => exact .inr ⟨_, _, rfl, rfl, hr.1, k _ _ G H (.refl gd) (.str (okS_app hx hy hr.1)) hr.2⟩
theorem pd_add (ha : PD X a da) (hb : PD X b db) : PD X (.BinOp a .Add b pos) (dOp rAddD da db) := pd_op (op_orR op_add op_add_str) ab_add ha hb
theorem pd_sub (ha : PD X a da) (hb : PD X b db) : PD X (.BinOp a .Sub b pos) (dOp rSubD da db) := pd_op op_sub (abI0 fun x y G Q h => by cases x <;> cases y <;> first | exact h.elim | exact ⟨_, _, rfl, rfl, h⟩) ha hb
theorem pd_mul (ha : PD X a da) (hb : PD X b db) : PD X (.BinOp a .Mult b pos) (dOp rMulD da db) := pd_op op_mul (abI fun x y G Q h => by cases x <;> cases y <;> first | exact h.elim | exact ⟨_, _, rfl, rfl, h.1, h.2⟩) ha hb
theorem pd_mod (ha : PD X a da) (hb : PD X b db) : PD X (.BinOp a .Mod b pos) (dOp rModD da db) := pd_op op_mod (abI fun x y G Q h => by cases x <;> cases y <;> first | exact h.elim | exact ⟨_, _, rfl, rfl, h.1, h.2⟩) ha hb
theorem pd_div (ha : PD X a da) (hb : PD X b db) : PD X (.BinOp a .FloorDiv b pos) (dOp rDivD da db) := pd_op op_fdiv (abI fun x y G Q h => by cases x <;> cases y <;> first | exact h.elim | exact ⟨_, _, rfl, rfl, h.1, h.2⟩) ha hb
theorem pd_pow (ha : PD X a da) (hb : PD X b db) : PD X (.BinOp a .Pow b pos) (dOp rPowD da db) := pd_op op_pow (abI fun x y G Q h => by cases x <;> cases y <;> first | exact h.elim | exact ⟨_, _, rfl, rfl, h.1, h.2⟩) ha hb
end

/-! ### comparisons by values -/
section
variable {X : Cx} {pos : Pos} {a b c : Expr} {da db dc : DE}
@[simp] def rLtD : D2
  | .int i, .int j, G, Q => Q (.bl (decide (i < j))) G
  | .str i, .str j, G, Q => Q (.bl (decide (i.cps.toList < j.cps.toList))) G
  | _, _, _, _ => False
@[simp] def rLeD : D2
  | .int i, .int j, G, Q => Q (.bl (decide (i ≤ j))) G
  | .str i, .str j, G, Q => Q (.bl (!decide (j.cps.toList < i.cps.toList))) G
  | _, _, _, _ => False
@[simp] def rGtD : D2
  | .int i, .int j, G, Q => Q (.bl (decide (j < i))) G
  | .str i, .str j, G, Q => Q (.bl (decide (j.cps.toList < i.cps.toList))) G
  | _, _, _, _ => False
@[simp] def rGeD : D2
  | .int i, .int j, G, Q => Q (.bl (decide (j ≤ i))) G
  | .str i, .str j, G, Q => Q (.bl (!decide (i.cps.toList < j.cps.toList))) G
  | _, _, _, _ => False
end
end Dl

end
section
set_option maxHeartbeats 4000000
namespace Dl
open PySem PySem.Spec PyProof.Rows L2

/-! ### data as the library's data -/
mutual
def D.toP : D → PyData
  | .non => .none
  | .bl b => .bool b
  | .int i => .int i
  | .str s => .str s
  | .ty _ => .none
  | .tup ds => .tuple (D.toPs ds)
  | .lst ds => .list (D.toPs ds)
  | .dic _ => .none
  | .ref _ => .none
def D.toPs : List D → List PyData
  | [] => []
  | d :: r => d.toP :: D.toPs r
end
/-- nothing but None, bools, ints, texts, tuples, lists, at most n deep -/
def plain : Nat → D → Bool
  | _, .non => true
  | _, .bl _ => true
  | _, .int _ => true
  | _, .str _ => true
  | n + 1, .tup ds => ds.all (plain n)
  | n + 1, .lst ds => ds.all (plain n)
  | _, _ => false
def eqvD (x y : D) : Bool := PyData.eqv x.toP y.toP
/-- what stands there now -/
@[simp] def asD (G : Gp) : D → D
  | .ref a => match G a with
    | some (.lst ds) => .lst ds
    | some (.dic ks) => .dic ks
    | none => .ref a
  | d => d
section
variable {K : PySem.W.Frag} {G : Gp} {H : Hp}
def DpOk (K : PySem.W.Frag) (H : Hp) (n : Nat) (v : V) (d : D) : Prop := Dp K H v d.toP ∧ d.toP.canLay0 = true ∧ d.toP.depth ≤ n
theorem dps_of {n : Nat} (ih : ∀ v d, RD K H v d → plain n d = true → DpOk K H n v d) : ∀ (ds : List D) {vs : List V}, RDs K H vs ds → ds.all (plain n) = true →
    DpAll K H vs (D.toPs ds) ∧ PyData.canLayAll0 (D.toPs ds) = true ∧ PyData.depthAll (D.toPs ds) ≤ n
  | [], _, r, _ => by
    cases r
    exact ⟨.nil, rfl, Nat.zero_le _⟩
  | d :: ds, _, r, h => by
    cases r with
    | cons r t =>
      rw [List.all_cons, Bool.and_eq_true] at h
      obtain ⟨a1, a2, a3⟩ := ih _ _ r h.1
      obtain ⟨b1, b2, b3⟩ := dps_of ih ds t h.2
      refine ⟨.cons a1 b1, ?_, ?_⟩
      · show (PyData.canLay0 d.toP && PyData.canLayAll0 (D.toPs ds)) = true
        rw [a2, b2]; rfl
      · show max (PyData.depth d.toP) (PyData.depthAll (D.toPs ds)) ≤ n
        omega
theorem dp_leaf (n : Nat) {v : V} {d : D} (r : RD K H v d) (h : plain 0 d = true) : DpOk K H n v d := by
  cases r with
  | non => exact ⟨.non, rfl, Nat.zero_le _⟩
  | bl b => exact ⟨.bl b, rfl, Nat.zero_le _⟩
  | int i => exact ⟨.int i, rfl, Nat.zero_le _⟩
  | str hs => exact ⟨.str _, hs.2, Nat.zero_le _⟩
  | ty n => cases h
  | ref a => cases h
  | tup _ _ => cases h
  | lst _ _ => cases h
  | dic _ _ => cases h
theorem dp_of : ∀ (n : Nat) (v : V) (d : D), RD K H v d → plain n d = true → DpOk K H n v d
  | 0, v, d, r, h => dp_leaf 0 r h
  | n + 1, v, d, r, h => by
    cases r with
    | tup hq r =>
      obtain ⟨h1, h2, h3⟩ := dps_of (dp_of n) _ r h
      exact ⟨.tup hq h1, h2, Nat.succ_le_succ h3⟩
    | lst hq r =>
      obtain ⟨h1, h2, h3⟩ := dps_of (dp_of n) _ r h
      exact ⟨.lst hq.seq h1, h2, Nat.succ_le_succ h3⟩
    | non => exact dp_leaf _ .non rfl
    | bl b => exact dp_leaf _ (.bl b) rfl
    | int i => exact dp_leaf _ (.int i) rfl
    | str hs => exact dp_leaf _ (.str hs) rfl
    | ty n => cases h
    | ref a => cases h
    | dic _ _ => cases h
/-- a list, as it stands -/
theorem sq_as (g : Gd K G H) {v : V} {d : D} {ds : List D} (r : RD K H v d) (h : asD G d = .lst ds) : ∃ a vs, v = .ref a ∧ SqL K H a vs ∧ RDs K H vs ds := by
  cases d with
  | lst es =>
    cases r with
    | lst hq hr =>
      have e : es = ds := by simpa [asD] using h
      subst e
      exact ⟨_, _, rfl, hq.seq, hr⟩
  | ref a =>
    cases r
    unfold asD at h
    cases e : G a with
    | none => simp [e] at h
    | some m =>
      cases m with
      | lst es =>
        simp [e] at h
        subst h
        obtain ⟨vs, q, hr⟩ := g a _ e
        exact ⟨a, vs, rfl, .of q, hr⟩
      | dic ks => simp [e] at h
  | _ => simp [asD] at h
/-- a dict, as it stands -/
theorem dk_as (g : Gd K G H) {v : V} {d : D} {ks : List (Key × D)} (r : RD K H v d) (h : asD G d = .dic ks) : ∃ a vs, v = .ref a ∧ Rd H a (.dK vs) ∧ RDk K H vs ks := by
  cases d with
  | dic es =>
    cases r with
    | dic hq hr =>
      have e : es = ks := by simpa [asD] using h
      subst e
      exact ⟨_, _, rfl, .inr ⟨_, hq⟩, hr⟩
  | ref a =>
    cases r
    unfold asD at h
    cases e : G a with
    | none => simp [e] at h
    | some m =>
      cases m with
      | dic es =>
        simp [e] at h
        subst h
        obtain ⟨vs, q, hr⟩ := g a _ e
        exact ⟨a, vs, rfl, .inl q, hr⟩
      | lst es => simp [e] at h
  | _ => simp [asD] at h
theorem tup_as {v : V} {d : D} {ds : List D} (r : RD K H v d) (h : asD G d = .tup ds) : ∃ a vs, v = .ref a ∧ SqT K H a vs ∧ RDs K H vs ds := by
  cases d with
  | tup es =>
    cases r with
    | tup hq hr =>
      have e : es = ds := by simpa [asD] using h
      subst e
      exact ⟨_, _, rfl, hq, hr⟩
  | ref a =>
    unfold asD at h
    cases e : G a with
    | none => simp [e] at h
    | some m => cases m <;> simp [e] at h
  | _ => simp [asD] at h
theorem str_as {v : V} {d : D} {s : Str} (r : RD K H v d) (h : asD G d = .str s) : v = .str s ∧ okS s := by
  cases d with
  | str x =>
    have e : x = s := by simpa [asD] using h
    subst e
    cases r with
    | str h => exact ⟨rfl, h⟩
  | ref a =>
    unfold asD at h
    cases e : G a with
    | none => simp [e] at h
    | some m => cases m <;> simp [e] at h
  | _ => simp [asD] at h
theorem int_as {v : V} {d : D} {i : Int} (r : RD K H v d) (h : asD G d = .int i) : v = .int i := by
  cases d with
  | int x =>
    have e : x = i := by simpa [asD] using h
    subst e
    cases r
    rfl
  | ref a =>
    unfold asD at h
    cases e : G a with
    | none => simp [e] at h
    | some m => cases m <;> simp [e] at h
  | _ => simp [asD] at h
theorem bl_as {v : V} {d : D} {b : Bool} (r : RD K H v d) (h : asD G d = .bl b) : v = .bl b := by
  cases d with
  | bl x =>
    have e : x = b := by simpa [asD] using h
    subst e
    cases r
    rfl
  | ref a =>
    unfold asD at h
    cases e : G a with
    | none => simp [e] at h
    | some m => cases m <;> simp [e] at h
  | _ => simp [asD] at h
theorem non_as {v : V} {d : D} (r : RD K H v d) (h : asD G d = .non) : v = .non := by
  cases d with
  | non => cases r; rfl
  | ref a =>
    unfold asD at h
    cases e : G a with
    | none => simp [e] at h
    | some m => cases m <;> simp [e] at h
  | _ => simp [asD] at h
theorem dp_as (g : Gd K G H) {v : V} {d : D} (r : RD K H v d) {n : Nat} (h : plain n (asD G d) = true) : DpOk K H n v (asD G d) := by
  cases d with
  | ref a =>
    cases e : G a with
    | none =>
      have e' : asD G (.ref a) = .ref a := by show (match G a with | some (.lst ds) => D.lst ds | some (.dic ks) => .dic ks | none => .ref a) = _; rw [e]
      rw [e'] at h
      cases n <;> cases h
    | some m =>
      cases m with
      | dic es =>
        have e' : asD G (.ref a) = .dic es := by show (match G a with | some (.lst ds) => D.lst ds | some (.dic ks) => .dic ks | none => .ref a) = _; rw [e]
        rw [e'] at h
        cases n <;> cases h
      | lst es =>
        have e' : asD G (.ref a) = .lst es := by show (match G a with | some (.lst ds) => D.lst ds | some (.dic ks) => .dic ks | none => .ref a) = _; rw [e]
        rw [e'] at h ⊢
        obtain ⟨b, vs, ev, hq, hr⟩ := sq_as g r e'
        cases n with
        | zero => cases h
        | succ n =>
          obtain ⟨h1, h2, h3⟩ := dps_of (dp_of n) _ hr h
          subst ev
          exact ⟨.lst hq h1, h2, Nat.succ_le_succ h3⟩
  | _ => exact dp_of n _ _ r h
end

/-! ### == -/
@[simp] def rEqD : D2 := fun x y G Q => plain 60 (asD G x) = true ∧ plain 60 (asD G y) = true ∧ Q (.bl (eqvD (asD G x) (asD G y))) G
@[simp] def rNeD : D2 := fun x y G Q => plain 60 (asD G x) = true ∧ plain 60 (asD G y) = true ∧ Q (.bl (!eqvD (asD G x) (asD G y))) G
theorem shaped_of {p : PyData} (h1 : p.canLay0 = true) (h2 : p.depth ≤ 60) : SeqAt.shaped p = true := by
  show (p.canLay0 && decide (p.depth ≤ 64)) = true
  rw [Bool.and_eq_true]
  exact ⟨h1, decide_eq_true (by omega)⟩
theorem ab_eq {K : PySem.W.Frag} : Ab2 K (L2.rEqD K) rEqD := by
  rintro G H x y d e Qd Q gd rx ry ⟨p1, p2, q⟩ k
  obtain ⟨a1, a2, a3⟩ := dp_as gd rx p1
  obtain ⟨b1, b2, b3⟩ := dp_as gd ry p2
  exact ⟨_, _, a1, b1, shaped_of a2 a3, shaped_of b2 b3, k _ _ G H (.refl gd) (.bl _) q⟩
theorem ab_ne {K : PySem.W.Frag} : Ab2 K (L2.rNeD K) rNeD := by
  rintro G H x y d e Qd Q gd rx ry ⟨p1, p2, q⟩ k
  obtain ⟨a1, a2, a3⟩ := dp_as gd rx p1
  obtain ⟨b1, b2, b3⟩ := dp_as gd ry p2
  exact ⟨_, _, a1, b1, shaped_of a2 a3, shaped_of b2 b3, k _ _ G H (.refl gd) (.bl _) q⟩
theorem ab_lt {K : PySem.W.Frag} : Ab2 K (rOr (rI0 fun i j => .bl (decide (i < j))) (fun x y H Q => ∃ i j, x = .str i ∧ y = .str j ∧ Q (.bl (decide (i.cps.toList < j.cps.toList))) H)) rLtD := by
  intro G H x y d e Qd Q gd rx ry hr k
  cases d <;> cases e <;> first | exact hr.elim | skip
  · cases rx; cases ry; exact .inl ⟨_, _, rfl, rfl, k _ _ G H (.refl gd) (.bl _) hr⟩
  · cases rx; cases ry; exact .inr ⟨_, _, rfl, rfl, k _ _ G H (.refl gd) (.bl _) hr⟩
theorem ab_le {K : PySem.W.Frag} : Ab2 K (rOr (rI0 fun i j => .bl (decide (i ≤ j))) (fun x y H Q => ∃ i j, x = .str i ∧ y = .str j ∧ Q (.bl (!decide (j.cps.toList < i.cps.toList))) H)) rLeD := by
  intro G H x y d e Qd Q gd rx ry hr k
  cases d <;> cases e <;> first | exact hr.elim | skip
  · cases rx; cases ry; exact .inl ⟨_, _, rfl, rfl, k _ _ G H (.refl gd) (.bl _) hr⟩
  · cases rx; cases ry; exact .inr ⟨_, _, rfl, rfl, k _ _ G H (.refl gd) (.bl _) hr⟩
theorem ab_gt {K : PySem.W.Frag} : Ab2 K (rOr (rI0 fun i j => .bl (decide (j < i))) (fun x y H Q => ∃ i j, x = .str i ∧ y = .str j ∧ Q (.bl (decide (j.cps.toList < i.cps.toList))) H)) rGtD := by
  intro G H x y d e Qd Q gd rx ry hr k
  cases d <;> cases e <;> first | exact hr.elim | skip
  · cases rx; cases ry; exact .inl ⟨_, _, rfl, rfl, k _ _ G H (.refl gd) (.bl _) hr⟩
  · cases rx; cases ry; exact .inr ⟨_, _, rfl, rfl, k _ _ G H (.refl gd) (.bl _) hr⟩
theorem ab_ge {K : PySem.W.Frag} : Ab2 K (rOr (rI0 fun i j => .bl (decide (j ≤ i))) (fun x y H Q => ∃ i j, x = .str i ∧ y = .str j ∧ Q (.bl (!decide (i.cps.toList < j.cps.toList))) H)) rGeD := by
  intro G H x y d e Qd Q gd rx ry hr k
  cases d <;> cases e <;> first | exact hr.elim | skip
  · cases rx; cases ry; exact .inl ⟨_, _, rfl, rfl, k _ _ G H (.refl gd) (.bl _) hr⟩
  · cases rx; cases ry; exact .inr ⟨_, _, rfl, rfl, k _ _ G H (.refl gd) (.bl _) hr⟩

/-! ### in -/
def flatD : D → Bool
  | .non => true
  | .bl _ => true
  | .int _ => true
  | .str _ => true
  | _ => false
def toV : D → V
  | .non => .non
  | .bl b => .bl b
  | .int i => .int i
  | .str s => .str s
  | _ => .non
def inD (x : D) (ds : List D) : Bool := inV (toV x) (ds.map toV)
theorem toV_of {K : PySem.W.Frag} {H : Hp} {v : V} {d : D} (r : RD K H v d) (h : flatD d = true) : v = toV d ∧ flatV v = true := by
  cases r <;> first | exact ⟨rfl, rfl⟩ | cases h
theorem toVs_of {K : PySem.W.Frag} {H : Hp} : ∀ {vs : List V} {ds : List D}, RDs K H vs ds → ds.all flatD = true → vs = ds.map toV ∧ vs.all flatV = true
  | _, _, .nil, _ => ⟨rfl, rfl⟩
  | _, _, .cons r t, h => by
    rw [List.all_cons, Bool.and_eq_true] at h
    obtain ⟨a, b⟩ := toV_of r h.1
    obtain ⟨c, e⟩ := toVs_of t h.2
    exact ⟨by rw [List.map_cons, ← a, ← c], by rw [List.all_cons, b, e]; rfl⟩
/-! ### dicts -/
@[simp] def keyD : D → Option Key
  | .int i => some (.inl i)
  | .str s => some (.inr s)
  | _ => none
theorem keyD_of {K : PySem.W.Frag} {H : Hp} {v : V} {d : D} {k : Key} (r : RD K H v d) (h : keyD d = some k) : v = kV k := by
  cases d with
  | int i =>
    have e : k = .inl i := by simpa [keyD] using h.symm
    subst e
    cases r
    rfl
  | str s =>
    have e : k = .inr s := by simpa [keyD] using h.symm
    subst e
    cases r
    rfl
  | _ => cases h
theorem okK_of {K : PySem.W.Frag} {H : Hp} {v : V} {d : D} {k : Key} (r : RD K H v d) (h : keyD d = some k) : okK k := by
  cases d with
  | int i =>
    have e : k = .inl i := by simpa [keyD] using h.symm
    subst e
    trivial
  | str s =>
    have e : k = .inr s := by simpa [keyD] using h.symm
    subst e
    cases r with
    | str hs => exact hs
  | _ => cases h
@[simp] def keyV : Key → D
  | .inl i => .int i
  | .inr s => .str s
theorem rd_key {K : PySem.W.Frag} {H : Hp} {k : Key} (h : okK k) : RD K H (kV k) (keyV k) := by
  cases k with
  | inl i => exact .int i
  | inr s => exact .str h
section
variable {κ α : Type} [DecidableEq κ]
def valD (kvs : List (κ × α)) (k : κ) : Option α := (kvs.find? fun kv => decide (kv.1 = k)).map (·.2)
def putD (kvs : List (κ × α)) (k : κ) (v : α) : List (κ × α) :=
  if (kvs.any fun kv => decide (kv.1 = k)) = true then kvs.map fun kv => if kv.1 = k then (kv.1, v) else kv else kvs ++ [(k, v)]
def dropD (kvs : List (κ × α)) (k : κ) : List (κ × α) := kvs.filter fun kv => decide (kv.1 ≠ k)
end
section
variable {K : PySem.W.Frag} {H : Hp}
theorem RDk.val : ∀ {vs : List (Key × V)} {ks : List (Key × D)} (k : Key), RDk K H vs ks → match valD ks k with
    | some d => ∃ v, valV vs k = some v ∧ RD K H v d
    | none => valV vs k = none
  | _, _, k, .nil => rfl
  | (k', v) :: vs, (_, d) :: ks, k, .cons _ r t => by
    by_cases e : k' = k
    · subst e
      rw [show valD ((k', d) :: ks) k' = some d by simp [valD]]
      exact ⟨v, by simp [valV], r⟩
    · have h1 : valD ((k', d) :: ks) k = valD ks k := by simp [valD, List.find?_cons, e]
      have h2 : valV ((k', v) :: vs) k = valV vs k := by simp [valV, List.find?_cons, e]
      rw [h1, h2]
      exact RDk.val k t
theorem RDk.some {vs : List (Key × V)} {ks : List (Key × D)} {k : Key} {d : D} (r : RDk K H vs ks) (h : valD ks k = some d) : ∃ v, valV vs k = some v ∧ RD K H v d := by
  have z := r.val k
  rw [h] at z
  exact z
theorem RDk.none {vs : List (Key × V)} {ks : List (Key × D)} {k : Key} (r : RDk K H vs ks) (h : valD ks k = none) : valV vs k = none := by
  have z := r.val k
  rw [h] at z
  exact z
theorem RDk.isSome {vs : List (Key × V)} {ks : List (Key × D)} (k : Key) (r : RDk K H vs ks) : (valV vs k).isSome = (valD ks k).isSome := by
  cases e : valD ks k with
  | none => rw [r.none e]; rfl
  | some d =>
    obtain ⟨v, q, _⟩ := r.some e
    rw [q]; rfl
theorem RDk.any : ∀ {vs : List (Key × V)} {ks : List (Key × D)} (k : Key), RDk K H vs ks → (vs.any fun kv => decide (kv.1 = k)) = ks.any fun kv => decide (kv.1 = k)
  | _, _, _, .nil => rfl
  | _, _, k, .cons _ r t => by rw [List.any_cons, List.any_cons, RDk.any k t]
theorem RDk.app : ∀ {vs ws : List (Key × V)} {ks ls : List (Key × D)}, RDk K H vs ks → RDk K H ws ls → RDk K H (vs ++ ws) (ks ++ ls)
  | _, _, _, _, .nil, s => s
  | _, _, _, _, .cons o r t, s => .cons o r (RDk.app t s)
theorem RDk.repl {v : V} {d : D} (r : RD K H v d) (k : Key) : ∀ {vs : List (Key × V)} {ks : List (Key × D)}, RDk K H vs ks →
    RDk K H (vs.map fun kv => if kv.1 = k then (kv.1, v) else kv) (ks.map fun kv => if kv.1 = k then (kv.1, d) else kv)
  | _, _, .nil => .nil
  | (k', _) :: _, _, .cons o q t => by
    rw [List.map_cons, List.map_cons]
    by_cases e : k' = k
    · rw [if_pos e, if_pos e]
      exact .cons o r (RDk.repl r k t)
    · rw [if_neg e, if_neg e]
      exact .cons o q (RDk.repl r k t)
theorem RDk.put {vs : List (Key × V)} {ks : List (Key × D)} {v : V} {d : D} (t : RDk K H vs ks) (k : Key) (o : okK k) (r : RD K H v d) : RDk K H (putK vs k v) (putD ks k d) := by
  unfold putK putD
  rw [t.any k]
  split
  · exact t.repl r k
  · exact t.app (.cons o r .nil)
theorem RDk.drop (k : Key) : ∀ {vs : List (Key × V)} {ks : List (Key × D)}, RDk K H vs ks → RDk K H (dropK vs k) (dropD ks k)
  | _, _, .nil => .nil
  | (k', _) :: _, _, .cons o q t => by
    unfold dropK dropD
    rw [List.filter_cons, List.filter_cons]
    by_cases e : k' = k
    · rw [if_neg (by simp [e]), if_neg (by simp [e])]
      exact RDk.drop k t
    · rw [if_pos (by simp [e]), if_pos (by simp [e])]
      exact .cons o q (RDk.drop k t)
end
/-- x in a list, a tuple (of flat things), a text, a dict -/
@[simp] def rInD (neg : Bool) : D2 := fun x y G Q => match asD G y with
  | .lst ds => flatD x = true ∧ ds.all flatD = true ∧ Q (.bl (if neg then !inD x ds else inD x ds)) G
  | .tup ds => flatD x = true ∧ ds.all flatD = true ∧ Q (.bl (if neg then !inD x ds else inD x ds)) G
  | .str t => ∃ s, x = .str s ∧ Q (.bl (if neg then (Builtin.Str.occurrences t s 0 t.length 1).isEmpty else !(Builtin.Str.occurrences t s 0 t.length 1).isEmpty)) G
  | .dic ks => ∃ k, keyD x = some k ∧ Q (.bl (if neg then !(valD ks k).isSome else (valD ks k).isSome)) G
  | _ => False
def rDin (neg : Bool) : R2 := fun x y H Q => ∃ a o, y = .ref a ∧ DGet H a x o ∧ Q (.bl (if neg then !o.isSome else o.isSome)) H
section
variable {X : Cx}
theorem op_inDk (hu : X.A.units + 1 < cLine) : OpR X (compareOp .In) (rDin false) := by
  intro pins s σ H x y v u Q I rx ry h
  obtain ⟨a, o, rfl, g, q⟩ := h
  cases ry
  exact d_in hu I g rx fun s' I' => ⟨.bl _, H, I', rfl, q⟩
theorem op_ninDk (hu : X.A.units + 1 < cLine) : OpR X (compareOp .NotIn) (rDin true) := by
  intro pins s σ H x y v u Q I rx ry h
  obtain ⟨a, o, rfl, g, q⟩ := h
  cases ry
  exact d_notIn hu I g rx fun s' I' => ⟨.bl _, H, I', rfl, q⟩
end
theorem dget_as {K : PySem.W.Frag} {G : Gp} {H : Hp} (g : Gd K G H) {v y : V} {d e : D} {ks : List (Key × D)} {k : Key} (r : RD K H v d) (h : asD G d = .dic ks) (ry : RD K H y e) (hk : keyD e = some k) :
    ∃ a vs, v = .ref a ∧ RDk K H vs ks ∧ DGet H a y (valV vs k) := by
  obtain ⟨a, vs, ev, hd, hr⟩ := dk_as g r h
  exact ⟨a, vs, ev, hr, .inl ⟨vs, k, hd, keyD_of ry hk, rfl⟩⟩
theorem ab_in {K : PySem.W.Frag} (neg : Bool) : Ab2 K (rOr (rIn K neg) (rOr (fun x y H Q => ∃ i j, x = .str i ∧ y = .str j ∧ Q (.bl (if neg then (Builtin.Str.occurrences j i 0 j.length 1).isEmpty else !(Builtin.Str.occurrences j i 0 j.length 1).isEmpty)) H) (rDin neg))) (rInD neg) := by
  intro G H x y d e Qd Q gd rx ry hr k
  unfold rInD at hr
  split at hr
  · rename_i ds he
    obtain ⟨h1, h2, q⟩ := hr
    obtain ⟨a, vs, rfl, hq, hv⟩ := sq_as gd ry he
    obtain ⟨e1, f1⟩ := toV_of rx h1
    obtain ⟨e2, f2⟩ := toVs_of hv h2
    refine .inl ⟨a, vs, rfl, .inl hq, f1, f2, ?_⟩
    rw [e1, e2]
    exact k _ _ G H (.refl gd) (.bl _) q
  · rename_i ds he
    obtain ⟨h1, h2, q⟩ := hr
    obtain ⟨a, vs, rfl, hq, hv⟩ := tup_as ry he
    obtain ⟨e1, f1⟩ := toV_of rx h1
    obtain ⟨e2, f2⟩ := toVs_of hv h2
    refine .inl ⟨a, vs, rfl, .inr hq, f1, f2, ?_⟩
    rw [e1, e2]
    exact k _ _ G H (.refl gd) (.bl _) q
  · rename_i t he
    obtain ⟨s, rfl, q⟩ := hr
    obtain ⟨rfl, _⟩ := str_as ry he
    cases rx
    exact .inr (.inl ⟨s, t, rfl, rfl, k _ _ G H (.refl gd) (.bl _) q⟩)
  · rename_i ks he
    obtain ⟨key, hk, q⟩ := hr
    obtain ⟨a, vs, rfl, hv, hg⟩ := dget_as gd ry he rx hk
    refine .inr (.inr ⟨a, _, rfl, hg, ?_⟩)
    rw [hv.isSome key]
    exact k _ _ G H (.refl gd) (.bl _) q
  · exact hr.elim
theorem op_ninS {X : Cx} : OpR X (compareOp .NotIn) (fun x y H Q => ∃ i j, x = .str i ∧ y = .str j ∧ Q (.bl (Builtin.Str.occurrences j i 0 j.length 1).isEmpty) H) := by
  intro pins s σ H x y v u Q I rx ry h
  obtain ⟨i, j, rfl, rfl, q⟩ := h
  exact op_notIn_str pins s σ H _ _ v u Q I rx ry ⟨i, j, rfl, rfl, by rw [Bool.not_not]; exact q⟩
section
variable {X : Cx} {pos : Pos} {a b c : Expr} {da db dc : DE} {dt du : DT}
theorem pd_cmp {op : CmpOp} {r : R2} {rd : D2} (ho : OpR X (compareOp op) r) (hr : Ab2 X.K r rd) (ha : PD X a da) (hb : PD X b db) (hm : behindInMarks op b = false) : PD X (.Compare a [op] [b] pos) (dOp rd da db) :=
  let ⟨_, h1, q1⟩ := ha; let ⟨_, h2, q2⟩ := hb; ⟨_, pe_cmpR ho h1 h2 hm, AbE.op q1 q2 hr⟩
/-- an expression that gives a bool, as a test -/
@[simp] def dB (de : DE) : DT := fun σ G Q => de σ G fun d G1 => match d with
  | .bl b => Q b G1
  | _ => False
theorem AbT.test {K : PySem.W.Frag} {te : TE} {de : DE} (h : AbE K te de) : AbT K (tTest te) (dB de) := fun G H σ σd Qd Q g re hd k =>
  h G H σ σd _ _ g re hd fun v d G' H' o r q => by
    cases d <;> first | exact q.elim | skip
    cases r
    exact ⟨_, rfl, k _ _ _ o q⟩
theorem pt_cmpD {op : CmpOp} {r : R2} {rd : D2} (ho : OpR X (compareOp op) r) (hr : Ab2 X.K r rd) (ha : PD X a da) (hb : PD X b db) (hm : behindInMarks op b = false) : PDt X (.Compare a [op] [b] pos) (dB (dOp rd da db)) :=
  let ⟨_, h1, q1⟩ := ha; let ⟨_, h2, q2⟩ := hb; ⟨_, pt_cmpR ho h1 h2 hm, AbT.test (AbE.op q1 q2 hr)⟩
section
variable (hu : X.A.units + 64 < cLine)
include hu
theorem pd_eq (ha : PD X a da) (hb : PD X b db) : PD X (.Compare a [.Eq] [b] pos) (dOp rEqD da db) := pd_cmp (op_eqD hu) ab_eq ha hb (nomark _)
theorem pd_ne (ha : PD X a da) (hb : PD X b db) : PD X (.Compare a [.NotEq] [b] pos) (dOp rNeD da db) := pd_cmp (op_neD hu) ab_ne ha hb (nomark _)
theorem pt_eq (ha : PD X a da) (hb : PD X b db) : PDt X (.Compare a [.Eq] [b] pos) (dB (dOp rEqD da db)) := pt_cmpD (op_eqD hu) ab_eq ha hb (nomark _)
theorem pt_ne (ha : PD X a da) (hb : PD X b db) : PDt X (.Compare a [.NotEq] [b] pos) (dB (dOp rNeD da db)) := pt_cmpD (op_neD hu) ab_ne ha hb (nomark _)
theorem pd_in (ha : PD X a da) (hb : PD X b db) (hm : behindInMarks .In b = false := by rfl) : PD X (.Compare a [.In] [b] pos) (dOp (rInD false) da db) :=
  pd_cmp (op_orR op_in_seq (op_orR op_in_str (op_inDk (by omega)))) (ab_in false) ha hb hm
theorem pt_in (ha : PD X a da) (hb : PD X b db) (hm : behindInMarks .In b = false := by rfl) : PDt X (.Compare a [.In] [b] pos) (dB (dOp (rInD false) da db)) :=
  pt_cmpD (op_orR op_in_seq (op_orR op_in_str (op_inDk (by omega)))) (ab_in false) ha hb hm
theorem pd_nin (ha : PD X a da) (hb : PD X b db) (hm : behindInMarks .NotIn b = false := by rfl) : PD X (.Compare a [.NotIn] [b] pos) (dOp (rInD true) da db) :=
  pd_cmp (op_orR op_notIn_seq (op_orR op_ninS (op_ninDk (by omega)))) (ab_in true) ha hb hm
theorem pt_nin (ha : PD X a da) (hb : PD X b db) (hm : behindInMarks .NotIn b = false := by rfl) : PDt X (.Compare a [.NotIn] [b] pos) (dB (dOp (rInD true) da db)) :=
  pt_cmpD (op_orR op_notIn_seq (op_orR op_ninS (op_ninDk (by omega)))) (ab_in true) ha hb hm
end
theorem pd_lt (ha : PD X a da) (hb : PD X b db) : PD X (.Compare a [.Lt] [b] pos) (dOp rLtD da db) := pd_cmp (op_orR op_lt op_lt_str) ab_lt ha hb (nomark _)
theorem pd_le (ha : PD X a da) (hb : PD X b db) : PD X (.Compare a [.LtE] [b] pos) (dOp rLeD da db) := pd_cmp (op_orR op_le op_le_str) ab_le ha hb (nomark _)
theorem pd_gt (ha : PD X a da) (hb : PD X b db) : PD X (.Compare a [.Gt] [b] pos) (dOp rGtD da db) := pd_cmp (op_orR op_gt op_gt_str) ab_gt ha hb (nomark _)
theorem pd_ge (ha : PD X a da) (hb : PD X b db) : PD X (.Compare a [.GtE] [b] pos) (dOp rGeD da db) := pd_cmp (op_orR op_ge op_ge_str) ab_ge ha hb (nomark _)
theorem pt_lt (ha : PD X a da) (hb : PD X b db) : PDt X (.Compare a [.Lt] [b] pos) (dB (dOp rLtD da db)) := pt_cmpD (op_orR op_lt op_lt_str) ab_lt ha hb (nomark _)
theorem pt_le (ha : PD X a da) (hb : PD X b db) : PDt X (.Compare a [.LtE] [b] pos) (dB (dOp rLeD da db)) := pt_cmpD (op_orR op_le op_le_str) ab_le ha hb (nomark _)
theorem pt_gt (ha : PD X a da) (hb : PD X b db) : PDt X (.Compare a [.Gt] [b] pos) (dB (dOp rGtD da db)) := pt_cmpD (op_orR op_gt op_gt_str) ab_gt ha hb (nomark _)
theorem pt_ge (ha : PD X a da) (hb : PD X b db) : PDt X (.Compare a [.GtE] [b] pos) (dB (dOp rGeD da db)) := pt_cmpD (op_orR op_ge op_ge_str) ab_ge ha hb (nomark _)
/-! is None -/
def isNonD : D → Bool
  | .non => true
  | _ => false
@[simp] def dIsN (da : DE) : DE := fun σ G Q => da σ G fun d G1 => Q (.bl (isNonD d)) G1
@[simp] def dNotN (da : DE) : DE := fun σ G Q => da σ G fun d G1 => Q (.bl (!isNonD d)) G1
theorem isNon_of {K : PySem.W.Frag} {H : Hp} {v : V} {d : D} (r : RD K H v d) : decide (v = .non) = isNonD d := by
  cases r <;> rfl
theorem ab_isN {K : PySem.W.Frag} {ta : TE} (h : AbE K ta da) : AbE K (tIsN ta) (dIsN da) := fun G H σ σd Qd Q g re hd k =>
  h G H σ σd _ _ g re hd fun v d G' H' o r q => by
    rw [isNon_of r]
    exact k _ _ _ _ o (.bl _) q
theorem ab_notN {K : PySem.W.Frag} {ta : TE} (h : AbE K ta da) : AbE K (tNotN ta) (dNotN da) := fun G H σ σd Qd Q g re hd k =>
  h G H σ σd _ _ g re hd fun v d G' H' o r q => by
    rw [isNon_of r]
    exact k _ _ _ _ o (.bl _) q
theorem pd_isN {j pos'} (ha : PD X a da) : PD X (.Compare a [.Is] [.Constant .none j pos'] pos) (dIsN da) := let ⟨_, h1, q1⟩ := ha; ⟨_, pe_cmp (pc_isN h1) rfl, ab_isN q1⟩
theorem pd_notN {j pos'} (ha : PD X a da) : PD X (.Compare a [.IsNot] [.Constant .none j pos'] pos) (dNotN da) := let ⟨_, h1, q1⟩ := ha; ⟨_, pe_cmp (pc_notN h1) rfl, ab_notN q1⟩
theorem AbT.tb {K : PySem.W.Frag} {te : TE} {de : DE} (h : AbE K te de) : AbT K (tB te) (dB de) := AbT.test h
theorem pt_isN {j pos'} (ha : PD X a da) : PDt X (.Compare a [.Is] [.Constant .none j pos'] pos) (dB (dIsN da)) := let ⟨_, h1, q1⟩ := ha; ⟨_, pt_cmp (pc_isN h1) rfl, AbT.tb (ab_isN q1)⟩
theorem pt_notN {j pos'} (ha : PD X a da) : PDt X (.Compare a [.IsNot] [.Constant .none j pos'] pos) (dB (dNotN da)) := let ⟨_, h1, q1⟩ := ha; ⟨_, pt_cmp (pc_notN h1) rfl, AbT.tb (ab_notN q1)⟩
end
end Dl

end
section
set_option maxHeartbeats 4000000
namespace Dl
open PySem PySem.Spec PyProof.Rows L2
theorem line_of {n : Nat} (h : n ≤ 100000) : n ≤ sizeLine := Nat.le_trans h (by decide)

/-! ### and, or, not, if else, chains -/
section
variable {K : PySem.W.Frag} {ta tb tc : TE} {da db dc : DE} {tt tu : TT} {dt du : DT} {r r' : R2} {rd rd' : D2}
@[simp] def dChain (rd rd' : D2) (da db dc : DE) : DE := fun σ G Q => da σ G fun x G1 => db σ G1 fun y G2 => rd x y G2 fun z G3 => match z with
  | .bl true => dc σ G3 fun w G4 => rd' y w G4 Q
  | .bl false => Q (.bl false) G3
  | _ => False
theorem AbE.chain (ha : AbE K ta da) (hb : AbE K tb db) (hc : AbE K tc dc) (hr : Ab2 K r rd) (hr' : Ab2 K r' rd') : AbE K (tChain r r' ta tb tc) (dChain rd rd' da db dc) := fun G H σ σd Qd Q g re h k =>
  ha G H σ σd _ _ g re h fun x d G1 H1 o1 r1 q1 => hb G1 H1 σ σd _ _ o1.gd (re.sb (o1.sb g)) q1 fun y e G2 H2 o2 r2 q2 =>
    hr G2 H2 x y d e _ _ o2.gd (r1.sb (o2.sb o1.gd)) r2 q2 fun z d' G3 H3 o3 r3 q3 => by
      have o123 := (o1.trans o2).trans o3
      split at q3
      · cases r3
        refine ⟨true, rfl, ?_⟩
        rw [if_pos rfl]
        exact hc G3 H3 σ σd _ _ o3.gd (re.sb (o123.sb g)) q3 fun w f G4 H4 o4 r4 q4 =>
          hr' G4 H4 y w e f _ _ o4.gd (r2.sb ((o3.trans o4).sb o2.gd)) r4 q4 fun v d5 G5 H5 o5 r5 q5 => k v d5 G5 H5 ((o123.trans o4).trans o5) r5 q5
      · cases r3
        refine ⟨false, rfl, ?_⟩
        rw [if_neg Bool.false_ne_true]
        exact k _ _ _ _ o123 (.bl _) q3
      · exact q3.elim
@[simp] def dAndV (da db : DE) : DE := fun σ G Q => da σ G fun x G1 => match x with
  | .bl true => db σ G1 Q
  | .bl false => Q (.bl false) G1
  | _ => False
@[simp] def dOrV (da db : DE) : DE := fun σ G Q => da σ G fun x G1 => match x with
  | .bl true => Q (.bl true) G1
  | .bl false => db σ G1 Q
  | _ => False
@[simp] def dNotV (da : DE) : DE := fun σ G Q => da σ G fun x G1 => match x with
  | .bl b => Q (.bl (!b)) G1
  | _ => False
theorem AbE.andV (ha : AbE K ta da) (hb : AbE K tb db) : AbE K (tAndV ta tb) (dAndV da db) := fun G H σ σd Qd Q g re h k =>
  ha G H σ σd _ _ g re h fun x d G1 H1 o1 r1 q1 => by
    split at q1
    · cases r1
      refine ⟨true, rfl, ?_⟩
      rw [if_pos rfl]
      exact hb G1 H1 σ σd _ _ o1.gd (re.sb (o1.sb g)) q1 fun v e G2 H2 o2 r2 q2 => k v e G2 H2 (o1.trans o2) r2 q2
    · cases r1
      refine ⟨false, rfl, ?_⟩
      rw [if_neg Bool.false_ne_true]
      exact k _ _ _ _ o1 (.bl _) q1
    · exact q1.elim
theorem AbE.orV (ha : AbE K ta da) (hb : AbE K tb db) : AbE K (tOrV ta tb) (dOrV da db) := fun G H σ σd Qd Q g re h k =>
  ha G H σ σd _ _ g re h fun x d G1 H1 o1 r1 q1 => by
    split at q1
    · cases r1
      refine ⟨true, rfl, ?_⟩
      rw [if_pos rfl]
      exact k _ _ _ _ o1 (.bl _) q1
    · cases r1
      refine ⟨false, rfl, ?_⟩
      rw [if_neg Bool.false_ne_true]
      exact hb G1 H1 σ σd _ _ o1.gd (re.sb (o1.sb g)) q1 fun v e G2 H2 o2 r2 q2 => k v e G2 H2 (o1.trans o2) r2 q2
    · exact q1.elim
theorem AbE.notV (ha : AbE K ta da) : AbE K (tNotV ta) (dNotV da) := fun G H σ σd Qd Q g re h k =>
  ha G H σ σd _ _ g re h fun x d G1 H1 o1 r1 q1 => by
    split at q1
    · cases r1
      exact ⟨_, rfl, k _ _ _ _ o1 (.bl _) q1⟩
    · exact q1.elim
@[simp] def dAnd (dt du : DT) : DT := fun σ G Q => dt σ G fun c G1 => if c = true then du σ G1 Q else Q false G1
@[simp] def dOr (dt du : DT) : DT := fun σ G Q => dt σ G fun c G1 => if c = true then Q true G1 else du σ G1 Q
@[simp] def dNot (dt : DT) : DT := fun σ G Q => dt σ G fun c G1 => Q (!c) G1
theorem AbT.and (ha : AbT K tt dt) (hb : AbT K tu du) : AbT K (tAnd tt tu) (dAnd dt du) := fun G H σ σd Qd Q g re h k =>
  ha G H σ σd _ _ g re h fun c G1 H1 o1 q1 => by
    cases c with
    | true => rw [if_pos rfl] at q1 ⊢; exact hb G1 H1 σ σd _ _ o1.gd (re.sb (o1.sb g)) q1 fun b G2 H2 o2 q2 => k b G2 H2 (o1.trans o2) q2
    | false => rw [if_neg Bool.false_ne_true] at q1 ⊢; exact k _ _ _ o1 q1
theorem AbT.or (ha : AbT K tt dt) (hb : AbT K tu du) : AbT K (tOr tt tu) (dOr dt du) := fun G H σ σd Qd Q g re h k =>
  ha G H σ σd _ _ g re h fun c G1 H1 o1 q1 => by
    cases c with
    | false => rw [if_neg Bool.false_ne_true] at q1 ⊢; exact hb G1 H1 σ σd _ _ o1.gd (re.sb (o1.sb g)) q1 fun b G2 H2 o2 q2 => k b G2 H2 (o1.trans o2) q2
    | true => rw [if_pos rfl] at q1 ⊢; exact k _ _ _ o1 q1
theorem AbT.not (ha : AbT K tt dt) : AbT K (tNot tt) (dNot dt) := fun G H σ σd Qd Q g re h k => ha G H σ σd _ _ g re h fun c G1 H1 o1 q1 => k _ _ _ o1 q1
@[simp] def dIf (dt : DT) (da db : DE) : DE := fun σ G Q => dt σ G fun c G1 => if c = true then da σ G1 Q else db σ G1 Q
theorem AbE.ite (ht : AbT K tt dt) (ha : AbE K ta da) (hb : AbE K tb db) : AbE K (tIf tt ta tb) (dIf dt da db) := fun G H σ σd Qd Q g re h k =>
  ht G H σ σd _ _ g re h fun c G1 H1 o1 q1 => by
    cases c with
    | true => rw [if_pos rfl] at q1 ⊢; exact ha G1 H1 σ σd _ _ o1.gd (re.sb (o1.sb g)) q1 fun v d G2 H2 o2 r2 q2 => k v d G2 H2 (o1.trans o2) r2 q2
    | false => rw [if_neg Bool.false_ne_true] at q1 ⊢; exact hb G1 H1 σ σd _ _ o1.gd (re.sb (o1.sb g)) q1 fun v d G2 H2 o2 r2 q2 => k v d G2 H2 (o1.trans o2) r2 q2
/-- truth -/
@[simp] def dTru (de : DE) : DT := fun σ G Q => de σ G fun d G1 => match asD G1 d with
  | .non => Q false G1
  | .bl b => Q b G1
  | .int i => Q (i != 0) G1
  | .str s => Q ((s.length : Int) != 0) G1
  | .tup ds => Q (!ds.isEmpty) G1
  | .lst ds => Q (!ds.isEmpty) G1
  | _ => False
theorem RDs.isEmpty {H : Hp} {vs : List V} {ds : List D} (r : RDs K H vs ds) : (!ds.isEmpty) = !vs.isEmpty := by cases r <;> rfl
theorem AbT.tru {K : PySem.W.Frag} {te : TE} {de : DE} (h : AbE K te de) : AbT K (fun σ H Q => te σ H fun x H' => ∃ k, TruV K x H' k ∧ Q k H') (dTru de) := fun G H σ σd Qd Q g re hd k =>
  h G H σ σd _ _ g re hd fun v d G' H' o r q => by
    split at q
    · rename_i e
      cases non_as r e
      exact ⟨_, rfl, k _ _ _ o q⟩
    · rename_i e
      cases bl_as r e
      exact ⟨_, rfl, k _ _ _ o q⟩
    · rename_i e
      cases int_as r e
      exact ⟨_, rfl, k _ _ _ o q⟩
    · rename_i e
      obtain ⟨e, hs⟩ := str_as r e
      subst e
      exact ⟨_, ⟨hs.1, rfl⟩, k _ _ _ o q⟩
    · rename_i ds e
      obtain ⟨a, vs, rfl, hq, hv⟩ := tup_as r e
      exact ⟨_, .inr (.inl ⟨vs, hq, hv.isEmpty⟩), k _ _ _ o q⟩
    · rename_i ds e
      obtain ⟨a, vs, rfl, hq, hv⟩ := sq_as o.gd r e
      exact ⟨_, .inl ⟨vs, hq, hv.isEmpty⟩, k _ _ _ o q⟩
    · exact q.elim
end
section
variable {X : Cx} {pos : Pos} {a b c : Expr} {rest : List Expr} {da db dc : DE} {dt du : DT} {r r' : R2} {rd rd' : D2}
theorem pd_chain {op op' : CmpOp} (ho : OpR X (compareOp op) r) (ho' : OpR X (compareOp op') r') (hr : Ab2 X.K r rd) (hr' : Ab2 X.K r' rd') (ha : PD X a da) (hb : PD X b db) (hc : PD X c dc)
    (hm : lastMarks [op, op'] [b, c] = false := by with_unfolding_all rfl) : PD X (.Compare a [op, op'] [b, c] pos) (dChain rd rd' da db dc) :=
  let ⟨_, h1, q1⟩ := ha; let ⟨_, h2, q2⟩ := hb; let ⟨_, h3, q3⟩ := hc; ⟨_, pe_chain ho ho' h1 h2 h3 hm, AbE.chain q1 q2 q3 hr hr'⟩
theorem pt_chainD {op op' : CmpOp} (ho : OpR X (compareOp op) r) (ho' : OpR X (compareOp op') r') (hr : Ab2 X.K r rd) (hr' : Ab2 X.K r' rd') (ha : PD X a da) (hb : PD X b db) (hc : PD X c dc)
    (hm : lastMarks [op, op'] [b, c] = false := by with_unfolding_all rfl) : PDt X (.Compare a [op, op'] [b, c] pos) (dB (dChain rd rd' da db dc)) :=
  let ⟨_, h1, q1⟩ := ha; let ⟨_, h2, q2⟩ := hb; let ⟨_, h3, q3⟩ := hc; ⟨_, pt_chain ho ho' h1 h2 h3 hm, AbT.test (AbE.chain q1 q2 q3 hr hr')⟩
theorem pd_lele (ha : PD X a da) (hb : PD X b db) (hc : PD X c dc) (hm : lastMarks [.LtE, .LtE] [b, c] = false := by with_unfolding_all rfl) : PD X (.Compare a [.LtE, .LtE] [b, c] pos) (dChain rLeD rLeD da db dc) := pd_chain (op_orR op_le op_le_str) (op_orR op_le op_le_str) ab_le ab_le ha hb hc hm
theorem pt_lele (ha : PD X a da) (hb : PD X b db) (hc : PD X c dc) (hm : lastMarks [.LtE, .LtE] [b, c] = false := by with_unfolding_all rfl) : PDt X (.Compare a [.LtE, .LtE] [b, c] pos) (dB (dChain rLeD rLeD da db dc)) := pt_chainD (op_orR op_le op_le_str) (op_orR op_le op_le_str) ab_le ab_le ha hb hc hm
theorem pd_ltle (ha : PD X a da) (hb : PD X b db) (hc : PD X c dc) (hm : lastMarks [.Lt, .LtE] [b, c] = false := by with_unfolding_all rfl) : PD X (.Compare a [.Lt, .LtE] [b, c] pos) (dChain rLtD rLeD da db dc) := pd_chain (op_orR op_lt op_lt_str) (op_orR op_le op_le_str) ab_lt ab_le ha hb hc hm
theorem pt_ltle (ha : PD X a da) (hb : PD X b db) (hc : PD X c dc) (hm : lastMarks [.Lt, .LtE] [b, c] = false := by with_unfolding_all rfl) : PDt X (.Compare a [.Lt, .LtE] [b, c] pos) (dB (dChain rLtD rLeD da db dc)) := pt_chainD (op_orR op_lt op_lt_str) (op_orR op_le op_le_str) ab_lt ab_le ha hb hc hm
theorem pd_lelt (ha : PD X a da) (hb : PD X b db) (hc : PD X c dc) (hm : lastMarks [.LtE, .Lt] [b, c] = false := by with_unfolding_all rfl) : PD X (.Compare a [.LtE, .Lt] [b, c] pos) (dChain rLeD rLtD da db dc) := pd_chain (op_orR op_le op_le_str) (op_orR op_lt op_lt_str) ab_le ab_lt ha hb hc hm
theorem pt_lelt (ha : PD X a da) (hb : PD X b db) (hc : PD X c dc) (hm : lastMarks [.LtE, .Lt] [b, c] = false := by with_unfolding_all rfl) : PDt X (.Compare a [.LtE, .Lt] [b, c] pos) (dB (dChain rLeD rLtD da db dc)) := pt_chainD (op_orR op_le op_le_str) (op_orR op_lt op_lt_str) ab_le ab_lt ha hb hc hm
theorem pd_ltlt (ha : PD X a da) (hb : PD X b db) (hc : PD X c dc) (hm : lastMarks [.Lt, .Lt] [b, c] = false := by with_unfolding_all rfl) : PD X (.Compare a [.Lt, .Lt] [b, c] pos) (dChain rLtD rLtD da db dc) := pd_chain (op_orR op_lt op_lt_str) (op_orR op_lt op_lt_str) ab_lt ab_lt ha hb hc hm
theorem pt_ltlt (ha : PD X a da) (hb : PD X b db) (hc : PD X c dc) (hm : lastMarks [.Lt, .Lt] [b, c] = false := by with_unfolding_all rfl) : PDt X (.Compare a [.Lt, .Lt] [b, c] pos) (dB (dChain rLtD rLtD da db dc)) := pt_chainD (op_orR op_lt op_lt_str) (op_orR op_lt op_lt_str) ab_lt ab_lt ha hb hc hm
theorem pd_one {op} (h : PD X a da) : PD X (.BoolOp op [a] pos) da := let ⟨_, h1, q1⟩ := h; ⟨_, pe_one h1, q1⟩
theorem pd_and (ha : PD X a da) (hb : PD X (.BoolOp .And (b :: rest) pos) db) : PD X (.BoolOp .And (a :: b :: rest) pos) (dAndV da db) := let ⟨_, h1, q1⟩ := ha; let ⟨_, h2, q2⟩ := hb; ⟨_, pe_and h1 h2, q1.andV q2⟩
theorem pd_or (ha : PD X a da) (hb : PD X (.BoolOp .Or (b :: rest) pos) db) : PD X (.BoolOp .Or (a :: b :: rest) pos) (dOrV da db) := let ⟨_, h1, q1⟩ := ha; let ⟨_, h2, q2⟩ := hb; ⟨_, pe_or h1 h2, q1.orV q2⟩
theorem pd_not (ha : PD X a da) : PD X (.UnaryOp .Not a pos) (dNotV da) := let ⟨_, h1, q1⟩ := ha; ⟨_, pe_not h1, q1.notV⟩
theorem pw_one (h : PDt X a dt) : PDw X (.BoolOp .And [a] pos) dt := let ⟨_, h1, q1⟩ := h; ⟨_, pw_and1 h1, q1⟩
theorem pw_oneO (h : PDt X a dt) : PDw X (.BoolOp .Or [a] pos) dt := let ⟨_, h1, q1⟩ := h; ⟨_, pw_or1 h1, q1⟩
theorem pw_andD (ha : PDt X a dt) (hb : PDw X (.BoolOp .And (b :: rest) pos) du) : PDw X (.BoolOp .And (a :: b :: rest) pos) (dAnd dt du) := let ⟨_, h1, q1⟩ := ha; let ⟨_, h2, q2⟩ := hb; ⟨_, pw_and h1 h2, q1.and q2⟩
theorem pw_orD (ha : PDt X a dt) (hb : PDw X (.BoolOp .Or (b :: rest) pos) du) : PDw X (.BoolOp .Or (a :: b :: rest) pos) (dOr dt du) := let ⟨_, h1, q1⟩ := ha; let ⟨_, h2, q2⟩ := hb; ⟨_, pw_or h1 h2, q1.or q2⟩
theorem pt_w {e : Expr} (h : PDw X e dt) : PDt X e dt := let ⟨_, h1, q1⟩ := h; ⟨_, h1.pt, q1⟩
theorem pt_notD (ha : PDt X a dt) : PDt X (.UnaryOp .Not a pos) (dNot dt) := let ⟨_, h1, q1⟩ := ha; ⟨_, pt_not h1, q1.not⟩
theorem pd_ite (hc : PDt X c dt) (ha : PD X a da) (hb : PD X b db) : PD X (.IfExp c a b pos) (dIf dt da db) := let ⟨_, h0, q0⟩ := hc; let ⟨_, h1, q1⟩ := ha; let ⟨_, h2, q2⟩ := hb; ⟨_, pe_ifExp h0 h1 h2, AbE.ite q0 q1 q2⟩
theorem pt_tru (ha : PD X a da) (he : ∀ whole, isTrue a X.env whole = (do let v ← whole; standAt a.pos; holding [v] (truthy v)) := by intro _; rfl) : PDt X a (dTru da) := let ⟨_, h1, q1⟩ := ha; ⟨_, pt_truth h1 he, AbT.tru q1⟩

/-! ### arguments, displays -/
@[simp] def dNil : DA := fun _ G Q => Q [] G
@[simp] def dCons (da : DE) (dr : DA) : DA := fun σ G Q => da σ G fun x G1 => dr σ G1 fun xs G2 => Q (x :: xs) G2
theorem ab_nil {K : PySem.W.Frag} : AbA K tNil dNil := fun G H σ σd Qd Q g re h k => k [] [] G H (.refl g) .nil h
theorem ab_cons {K : PySem.W.Frag} {ta : TE} {tr : TA} {dr : DA} (ha : AbE K ta da) (hr : AbA K tr dr) : AbA K (tCons ta tr) (dCons da dr) := fun G H σ σd Qd Q g re h k =>
  ha G H σ σd _ _ g re h fun v d G1 H1 o1 r1 q1 => hr G1 H1 σ σd _ _ o1.gd (re.sb (o1.sb g)) q1 fun vs ds G2 H2 o2 r2 q2 => k _ _ _ _ (o1.trans o2) (.cons (r1.sb (o2.sb o1.gd)) r2) q2
theorem pda_nil : PDa X [] dNil := ⟨_, pa_nil, ab_nil⟩
theorem pda_cons {e : Expr} {es : List Expr} {de : DE} {dr : DA} (ha : PD X e de) (hr : PDa X es dr) (hs : starEach (e :: es) X.env = (false, eval e X.env) :: starEach es X.env := by rfl) : PDa X (e :: es) (dCons de dr) :=
  let ⟨_, h1, q1⟩ := ha; let ⟨_, h2, q2⟩ := hr; ⟨_, pa_cons h1 h2 hs, ab_cons q1 q2⟩
@[simp] def dTup (da : DA) : DE := fun σ G Q => da σ G fun ds G1 => ds.length ≤ 100000 ∧ Q (.tup ds) G1
theorem pd_tup {es : List Expr} {da : DA} {x1} (h : PDa X es da) : PD X (.Tuple es x1 pos) (dTup da) := by
  obtain ⟨ta, h1, q1⟩ := h
  refine ⟨_, pe_tup h1, fun G H σ σd Qd Q g re hd k => ?_⟩
  refine q1 G H σ σd _ _ g re hd fun vs ds G1 H1 o1 r1 ⟨z, q⟩ => ⟨by rw [r1.length]; exact line_of z, fun p hp => ?_⟩
  have o2 : Go X.K G1 H1 G1 (upd H1 p (.tup vs)) := .new o1.gd hp
  exact k _ _ _ _ (o1.trans o2) (.tup (.of upd_same) (r1.sb (sb_new hp))) q
/-- a new list -/
@[simp] def dLst (da : DA) : DA := fun σ G Q => da σ G fun ds G1 => ds.length ≤ 100000 ∧ Q ds G1
theorem pl_lst {es : List Expr} {da : DA} (h : PDa X es da) : PDl X (.List es pos) (dLst da) := by
  obtain ⟨ta, h1, q1⟩ := h
  refine ⟨_, pe_lst h1, fun G H σ σd Qd Q g re hd k => ?_⟩
  refine q1 G H σ σd _ _ g re hd fun vs ds G1 H1 o1 r1 ⟨z, q⟩ => ⟨by rw [r1.length]; exact line_of z, fun p hp => ?_⟩
  have o2 : Go X.K G1 H1 G1 (upd H1 p (.lst vs)) := .new o1.gd hp
  have hp0 : H p = none := o1.th p hp
  exact k p vs ds _ _ (o1.trans o2) (o1.gd.none_of hp) hp0 upd_same (r1.sb (sb_new hp)) q
end
end Dl

end
section
set_option maxHeartbeats 4000000
namespace Dl
open PySem PySem.Spec PyProof.Rows L2

/-! ### new lists and dicts: told, or locked at once -/
theorem pe_lk {X : Cx} {e : Expr} {te : TE} (h : PE X e te) : PE X e (fun σ H Q => te σ H fun v H1 => Q v H1 ∨ ∃ a u, v = .ref a ∧ H1 a = some u ∧ Mut (some u) ∧ ∀ od, Q v (upd H1 a (.frz od u))) := by
  refine ⟨fun pins s σ H Q I hq => thn (h.run pins s σ H _ I hq) fun v s1 ⟨x, H1, I1, r1, q⟩ => ?_⟩
  rcases q with q | ⟨a, u, ex, hu, mu, q⟩
  · exact ⟨x, H1, I1, r1, q⟩
  · obtain ⟨od, I2⟩ := I1.lock hu mu
    exact ⟨x, _, I2, r1, q od⟩
section
variable {K : PySem.W.Frag} {G : Gp} {H : Hp} {p : Addr}
theorem sb_lock {u : HO} {od : Obj} (g : Gd K G H) (h : H p = some u) (mu : Mut (some u)) : Sb K H (upd H p (.frz od u)) := by
  refine ⟨fun b xs q => ?_, fun b ob w q => ?_⟩
  · have hb : b ≠ p := fun z => by subst z; rw [h] at q; cases q; exact mu
    rw [upd_ne hb]; exact q
  · have hb : b ≠ p := fun z => by subst z; rw [h] at q; cases q; exact mu
    rw [upd_ne hb]; exact q
/-- an untold new thing is locked -/
theorem Go.lockN {G0 : Gp} {H0 : Hp} {u : HO} {od : Obj} (x : Go K G0 H0 G H) (n0 : H0 p = none) (n : G p = none) (h : H p = some u) (mu : Mut (some u)) : Go K G0 H0 G (upd H p (.frz od u)) := by
  refine ⟨fun a w e z => ?_, x.nw, fun a e => ?_, x.gd.sub (sb_lock x.gd h mu) fun a z => upd_ne fun e => z (by rw [e]; exact n)⟩
  · rw [upd_ne (ne_of_none e n0)]; exact x.fr a w e z
  · by_cases ha : a = p
    · rw [ha, upd_same] at e; cases e
    · rw [upd_ne ha] at e; exact x.th a e
/-- .. or told -/
theorem Go.tell {G0 : Gp} {H0 : Hp} {m : MO} (x : Go K G0 H0 G H) (n0 : H0 p = none) (r : RM K H p m) : Go K G0 H0 (updG G p m) H := by
  refine ⟨x.fr, fun a e z => ?_, x.th, fun a n e => ?_⟩
  · rw [updG_ne (fun q => e (by rw [q]; exact n0))]; exact x.nw a e z
  · by_cases ha : a = p
    · subst ha
      rw [updG_same] at e; cases e
      exact r
    · rw [updG_ne ha] at e
      exact x.gd a n e
end
@[simp] def dFz (dl : DA) : DE := fun σ G Q => dl σ G fun ds G1 => Q (.lst ds) G1
@[simp] def dNew (dl : DA) : DE := fun σ G Q => dl σ G fun ds G1 => ∀ p, G1 p = none → Q (.ref p) (updG G1 p (.lst ds))
@[simp] def dFzK (dk : DK) : DE := fun σ G Q => dk σ G fun ds G1 => Q (.dic ds) G1
@[simp] def dNewK (dk : DK) : DE := fun σ G Q => dk σ G fun ds G1 => ∀ p, G1 p = none → Q (.ref p) (updG G1 p (.dic ds))
section
variable {X : Cx} {e : Expr} {pos : Pos}
theorem ab_fz {K : PySem.W.Frag} {te : TE} {dl : DA} (h : AbL K te dl) : AbE K (fun σ H Q => te σ H fun v H1 => Q v H1 ∨ ∃ a u, v = .ref a ∧ H1 a = some u ∧ Mut (some u) ∧ ∀ od, Q v (upd H1 a (.frz od u))) (dFz dl) := fun G H σ σd Qd Q g re hd k =>
  h G H σ σd _ _ g re hd fun p vs ds G1 H1 o n n0 hp r q => .inr ⟨p, _, rfl, hp, trivial, fun od => k _ _ _ _ (o.lockN n0 n hp trivial) (.lst (.inl ⟨od, upd_same⟩) (r.sb (sb_lock o.gd hp trivial))) q⟩
theorem ab_new {K : PySem.W.Frag} {te : TE} {dl : DA} (h : AbL K te dl) : AbE K te (dNew dl) := fun G H σ σd Qd Q g re hd k =>
  h G H σ σd _ _ g re hd fun p vs ds G1 H1 o n n0 hp r q => k _ _ _ _ (o.tell (m := MO.lst ds) n0 ⟨vs, hp, r⟩) (.ref p) (q p n)
theorem ab_fzK {K : PySem.W.Frag} {te : TE} {dl : DK} (h : AbK K te dl) : AbE K (fun σ H Q => te σ H fun v H1 => Q v H1 ∨ ∃ a u, v = .ref a ∧ H1 a = some u ∧ Mut (some u) ∧ ∀ od, Q v (upd H1 a (.frz od u))) (dFzK dl) := fun G H σ σd Qd Q g re hd k =>
  h G H σ σd _ _ g re hd fun p vs ds G1 H1 o n n0 hp r q => .inr ⟨p, _, rfl, hp, trivial, fun od => k _ _ _ _ (o.lockN n0 n hp trivial) (.dic upd_same (r.sb (sb_lock o.gd hp trivial))) q⟩
theorem ab_newK {K : PySem.W.Frag} {te : TE} {dl : DK} (h : AbK K te dl) : AbE K te (dNewK dl) := fun G H σ σd Qd Q g re hd k =>
  h G H σ σd _ _ g re hd fun p vs ds G1 H1 o n n0 hp r q => k _ _ _ _ (o.tell (m := MO.dic ds) n0 ⟨vs, hp, r⟩) (.ref p) (q p n)
theorem pd_fz {dl : DA} (h : PDl X e dl) : PD X e (dFz dl) := let ⟨_, h1, q1⟩ := h; ⟨_, pe_lk h1, ab_fz q1⟩
theorem pd_new {dl : DA} (h : PDl X e dl) : PD X e (dNew dl) := let ⟨_, h1, q1⟩ := h; ⟨_, h1, ab_new q1⟩
theorem pd_fzK {dl : DK} (h : PDk X e dl) : PD X e (dFzK dl) := let ⟨_, h1, q1⟩ := h; ⟨_, pe_lk h1, ab_fzK q1⟩
theorem pd_newK {dl : DK} (h : PDk X e dl) : PD X e (dNewK dl) := let ⟨_, h1, q1⟩ := h; ⟨_, h1, ab_newK q1⟩
/-- what is told may be locked, from the inside outwards: the value is read anew -/
inductive FzTo (Q : KD) : D → Gp → Prop
  | done {d : D} {G : Gp} : Q d G → FzTo Q d G
  | lst {a : Addr} {G : Gp} {ds : List D} : G a = some (.lst ds) → FzTo Q (.lst ds) (delG G a) → FzTo Q (.ref a) G
  | dic {a : Addr} {G : Gp} {ks : List (Key × D)} : G a = some (.dic ks) → FzTo Q (.dic ks) (delG G a) → FzTo Q (.ref a) G
end

/-! ### subscripts -/
@[simp] def rIxD : D2 := fun x y G Q => match asD G x with
  | .tup ds => ∃ i d, y = .int i ∧ atI ds i = some d ∧ Q d G
  | .lst ds => ∃ i d, y = .int i ∧ atI ds i = some d ∧ Q d G
  | .str s => ∃ i c, y = .int i ∧ atI s.cps.toList i = some c ∧ Q (.str ⟨#[c]⟩) G
  | .dic ks => ∃ k d, keyD y = some k ∧ valD ks k = some d ∧ Q d G
  | _ => False
theorem RDs.atI {K : PySem.W.Frag} {H : Hp} {vs : List V} {ds : List D} {i : Int} {d : D} (r : RDs K H vs ds) (h : L2.atI ds i = some d) : ∃ v, L2.atI vs i = some v ∧ RD K H v d := by
  unfold L2.atI at h ⊢
  rw [r.length]
  cases e : ixN ds.length i with
  | none => rw [e] at h; cases h
  | some j =>
    rw [e] at h
    exact r.get h
theorem okS_one {s : Str} {i : Int} {c : Nat} (h : okS s) (e : L2.atI s.cps.toList i = some c) : okS ⟨#[c]⟩ := by
  have hc : c ∈ s.cps.toList := by
    unfold L2.atI at e
    cases q : ixN s.cps.toList.length i with
    | none => rw [q] at e; cases e
    | some j =>
      rw [q] at e
      exact List.mem_of_getElem? e
  have h2 : s.cps.all (· < 0x110000) = true := h.2
  rw [← Array.all_toList, List.all_eq_true] at h2
  refine ⟨by show 1 ≤ sizeLine; decide, ?_⟩
  show (#[c] : Array Nat).all (· < 0x110000) = true
  rw [← Array.all_toList]
  simpa using h2 c hc
def rDix : R2 := fun x y H Q => ∃ a v, x = .ref a ∧ DGet H a y (some v) ∧ Q v H
theorem ix_dic {X : Cx} (hu : X.A.units + 1 < cLine) : IxR X rDix := by
  intro value slice pins s σ H x y v u Q I rx ry ⟨a, w, ex, g, q⟩ hs
  subst ex
  cases rx
  exact tail_any (dict_typeIs I g) PySem.F.slot_dict_getitem.lookup (d_getItem hu I g ry fun w' s' I' r' => ⟨w, H, I', r', q⟩) hs
theorem ab_ix {K : PySem.W.Frag} : Ab2 K (rOr (rIx K) rDix) rIxD := by
  intro G H x y d e Qd Q gd rx ry hr k
  unfold rIxD at hr
  split at hr
  · rename_i ds he
    obtain ⟨i, z, rfl, h, q⟩ := hr
    obtain ⟨a, vs, rfl, hq, hv⟩ := tup_as rx he
    obtain ⟨w, hw, rw'⟩ := hv.atI h
    cases ry
    exact .inl (.inr (.inl ⟨a, vs, i, w, rfl, rfl, hq, hw, k _ _ G H (.refl gd) rw' q⟩))
  · rename_i ds he
    obtain ⟨i, z, rfl, h, q⟩ := hr
    obtain ⟨a, vs, rfl, hq, hv⟩ := sq_as gd rx he
    obtain ⟨w, hw, rw'⟩ := hv.atI h
    cases ry
    exact .inl (.inl ⟨a, vs, i, w, rfl, rfl, hq, hw, k _ _ G H (.refl gd) rw' q⟩)
  · rename_i s he
    obtain ⟨i, c, rfl, h, q⟩ := hr
    obtain ⟨rfl, hs⟩ := str_as rx he
    cases ry
    exact .inl (.inr (.inr ⟨s, i, c, rfl, rfl, hs.1, h, k _ _ G H (.refl gd) (.str (okS_one hs h)) q⟩))
  · rename_i ks he
    obtain ⟨key, z, hk, h, q⟩ := hr
    obtain ⟨a, vs, rfl, hv, hg⟩ := dget_as gd rx he ry hk
    obtain ⟨w, hw, rw'⟩ := hv.some h
    rw [hw] at hg
    exact .inr ⟨a, w, rfl, hg, k _ _ G H (.refl gd) rw' q⟩
  · exact hr.elim
theorem pd_ix {X : Cx} {a b : Expr} {pos : Pos} {da db : DE} (hu : X.A.units + 64 < cLine) (ha : PD X a da) (hb : PD X b db) (hs : PlainIx b := by exact fun _ _ => rfl) : PD X (.Subscript a b pos) (dOp rIxD da db) :=
  let ⟨_, h1, q1⟩ := ha; let ⟨_, h2, q2⟩ := hb; ⟨_, pe_ix (ix_seq.or (ix_dic (by omega))) h1 h2 hs, AbE.op q1 q2 ab_ix⟩

/-! ### slices -/
abbrev DO := Sd → Gp → (Option Int → Gp → Prop) → Prop
def AbO (K : PySem.W.Frag) (to : TO) (do_ : DO) : Prop := ∀ G H σ σd (Qd : Option Int → Gp → Prop) (Q : Option Int → Hp → Prop), Gd K G H → RE K H σ σd → do_ σd G Qd → (∀ o G' H', Go K G H G' H' → Qd o G' → Q o H') → to σ H Q
def PDo (X : Cx) (e : Option Expr) (do_ : DO) : Prop := ∃ to, PO X e to ∧ AbO X.K to do_
@[simp] def dNoPart : DO := fun _ G Q => Q none G
@[simp] def dPart (de : DE) : DO := fun σ G Q => de σ G fun d G1 => match d with
  | .int i => Q (some i) G1
  | _ => False
theorem pdo_none {X : Cx} : PDo X none dNoPart := ⟨_, po_none, fun G H σ σd Qd Q g re h k => k none G H (.refl g) h⟩
theorem pdo_some {X : Cx} {e : Expr} {de : DE} (h : PD X e de) : PDo X (some e) (dPart de) := by
  obtain ⟨te, h1, q1⟩ := h
  refine ⟨_, po_some h1, fun G H σ σd Qd Q g re h k => ?_⟩
  refine q1 G H σ σd _ _ g re h fun v d G1 H1 o r q => ?_
  cases d <;> first | exact q.elim | skip
  cases r
  exact ⟨_, rfl, k _ _ _ o q⟩
def cutD {α : Type} (xs : List α) (lo hi : Option Int) : List α := (xs.drop (HT.sIx xs.length 0 lo)).take (HT.sIx xs.length xs.length hi - HT.sIx xs.length 0 lo)
theorem okS_cut {s : Str} (h : okS s) (lo hi : Option Int) : okS (cutS s lo hi) := by
  refine ⟨Nat.le_trans (cutS_length s lo hi) h.1, ?_⟩
  have h2 : s.cps.all (· < 0x110000) = true := h.2
  rw [← Array.all_toList, List.all_eq_true] at h2
  show ((((s.cps.toList.drop (HT.sIx s.length 0 lo)).take (HT.sIx s.length s.length hi - HT.sIx s.length 0 lo)).toArray : Array Nat)).all (· < 0x110000) = true
  rw [← Array.all_toList, List.all_eq_true]
  intro c hc
  exact h2 c (List.mem_of_mem_drop (List.mem_of_mem_take (by simpa using hc)))
def rSlD : D → Option Int → Option Int → Gp → KD → Prop := fun x lo hi G Q => match asD G x with
  | .tup ds => ¬ (HT.sIx ds.length 0 lo = 0 ∧ HT.sIx ds.length ds.length hi = ds.length) ∧ Q (.tup (cutD ds lo hi)) G
  | .lst ds => Q (.lst (cutD ds lo hi)) G
  | .str s => Q (.str (cutS s lo hi)) G
  | _ => False
def dSl (de : DE) (dl dh : DO) : DE := fun σ G Q => de σ G fun x G1 => dl σ G1 fun lo G2 => dh σ G2 fun hi G3 => rSlD x lo hi G3 Q
theorem RDs.cut {K : PySem.W.Frag} {H : Hp} {vs : List V} {ds : List D} (r : RDs K H vs ds) (lo hi : Option Int) : RDs K H (cutV vs lo hi) (cutD ds lo hi) := by
  unfold cutV cutD
  rw [r.length]
  exact (r.drop _).take _
theorem pd_sl {X : Cx} {e : Expr} {lo hi : Option Expr} {pos p2 : Pos} {de : DE} {dl dh : DO} (he : PD X e de) (hl : PDo X lo dl) (hh : PDo X hi dh) : PD X (.Subscript e (.Slice lo hi none p2) pos) (dSl de dl dh) := by
  obtain ⟨te, h1, q1⟩ := he
  obtain ⟨tl, h2, q2⟩ := hl
  obtain ⟨th, h3, q3⟩ := hh
  refine ⟨_, pe_lk (pe_slice (sl_list.or (sl_tup.or sl_str)) h1 h2 h3), fun G H σ σd Qd Q g re h k => ?_⟩
  refine q1 G H σ σd _ _ g re h fun v d G1 H1 o1 r1 z1 => ?_
  refine q2 G1 H1 σ σd _ _ o1.gd (re.sb (o1.sb g)) z1 fun l G2 H2 o2 z2 => ?_
  have o12 := o1.trans o2
  refine q3 G2 H2 σ σd _ _ o2.gd (re.sb (o12.sb g)) z2 fun u G3 H3 o3 z3 => ?_
  have o123 := o12.trans o3
  have r3 := r1.sb ((o2.trans o3).sb o1.gd)
  unfold rSlD at z3
  split at z3
  · rename_i ds he
    obtain ⟨a, vs, rfl, hq, hv⟩ := tup_as r3 he
    refine .inr (.inl ⟨a, vs, rfl, hq, by rw [hv.length]; exact z3.1, fun p hp => .inl ?_⟩)
    exact k _ _ _ _ (o123.trans (.new o3.gd hp)) (.tup (.of upd_same) ((hv.cut l u).sb (sb_new hp))) z3.2
  · rename_i ds he
    obtain ⟨a, vs, rfl, hq, hv⟩ := sq_as o3.gd r3 he
    refine .inl ⟨a, vs, rfl, hq, fun p hp => .inr ⟨p, _, rfl, upd_same, trivial, fun od => ?_⟩⟩
    have o4 : Go X.K G3 H3 G3 (upd H3 p (.lst (cutV vs l u))) := .new o3.gd hp
    have o5 := (o123.trans o4).lockN (od := od) (o123.th p hp) (o3.gd.none_of hp) upd_same trivial
    exact k _ _ _ _ o5 (.lst (.inl ⟨od, upd_same⟩) (((hv.cut l u).sb (sb_new hp)).sb (sb_lock o4.gd upd_same trivial))) z3
  · rename_i s he
    obtain ⟨rfl, hs⟩ := str_as r3 he
    exact .inr (.inr ⟨s, rfl, hs.1, .inl (k _ _ _ _ o123 (.str (okS_cut hs _ _)) z3)⟩)
  · exact z3.elim

/-! ### calls of built-ins by values -/
abbrev DC := List D → Gp → KD → Prop
def AbC (K : PySem.W.Frag) (r : List V → Hp → VK → Prop) (rd : DC) : Prop := ∀ G H vs ds (Qd : KD) (Q : VK), Gd K G H → RDs K H vs ds → rd ds G Qd → (∀ v d G' H', Go K G H G' H' → RD K H' v d → Qd d G' → Q v H') → r vs H Q
def AbCL (K : PySem.W.Frag) (r : List V → Hp → VK → Prop) (rd : List D → Gp → KDs → Prop) : Prop := ∀ G H vs ds (Qd : KDs) (Q : VK), Gd K G H → RDs K H vs ds → rd ds G Qd →
  (∀ p ws es G' H', Go K G H G' H' → G' p = none → H p = none → H' p = some (.lst ws) → RDs K H' ws es → Qd es G' → Q (.ref p) H') → r vs H Q
def AbCK (K : PySem.W.Frag) (r : List V → Hp → VK → Prop) (rd : List D → Gp → (List (Key × D) → Gp → Prop) → Prop) : Prop := ∀ G H vs ds (Qd : List (Key × D) → Gp → Prop) (Q : VK), Gd K G H → RDs K H vs ds → rd ds G Qd →
  (∀ p ws es G' H', Go K G H G' H' → G' p = none → H p = none → H' p = some (.dK ws) → RDk K H' ws es → Qd es G' → Q (.ref p) H') → r vs H Q
@[simp] def dCa {α : Type} (rd : List D → Gp → (α → Gp → Prop) → Prop) (da : DA) : Sd → Gp → (α → Gp → Prop) → Prop := fun σ G Q => da σ G fun ds G1 => rd ds G1 Q
section
variable {K : PySem.W.Frag} {r : List V → Hp → VK → Prop} {ta : TA} {da : DA}
theorem AbC.call {rd : DC} (h : AbC K r rd) (ha : AbA K ta da) : AbE K (tCB r ta) (dCa rd da) := fun G H σ σd Qd Q g re hd k =>
  ha G H σ σd _ _ g re hd fun vs ds G1 H1 o1 r1 q1 => h G1 H1 vs ds _ _ o1.gd r1 q1 fun v d G2 H2 o2 r2 q2 => k _ _ _ _ (o1.trans o2) r2 q2
theorem AbCL.call {rd : List D → Gp → KDs → Prop} (h : AbCL K r rd) (ha : AbA K ta da) : AbL K (tCB r ta) (dCa rd da) := fun G H σ σd Qd Q g re hd k =>
  ha G H σ σd _ _ g re hd fun vs ds G1 H1 o1 r1 q1 => h G1 H1 vs ds _ _ o1.gd r1 q1 fun p ws es G2 H2 o2 n n0 hp r2 q2 => k p ws es _ _ (o1.trans o2) n (o1.th p n0) hp r2 q2
theorem AbCK.call {rd : List D → Gp → (List (Key × D) → Gp → Prop) → Prop} (h : AbCK K r rd) (ha : AbA K ta da) : AbK K (tCB r ta) (dCa rd da) := fun G H σ σd Qd Q g re hd k =>
  ha G H σ σd _ _ g re hd fun vs ds G1 H1 o1 r1 q1 => h G1 H1 vs ds _ _ o1.gd r1 q1 fun p ws es G2 H2 o2 n n0 hp r2 q2 => k p ws es _ _ (o1.trans o2) n (o1.th p n0) hp r2 q2
end
section
variable {X : Cx} {x : Str} {p pos : Pos} {e : Expr} {es : List Expr} {da : DA} {id T : String} {r : List V → Hp → VK → Prop}
theorem pd_callB {rd : DC} (hc : CallR X (.builtin id) r) (hr : AbC X.K r rd) (hm : X.mg x = none) (ha : PDa X (e :: es) da) (hg : Gl X x := by rfl) (hv : bootBuiltins x = some (.builtin id) := by decide +kernel) (hn : x ≠ "__name__" := by decide) (hdb : (x == ("__debug__" : Str)) = false := by decide)
    (hs : starEach (e :: es) X.env = (false, eval e X.env) :: starEach es X.env := by rfl) (hpl : (backTo pos (starEach es X.env)).any (·.1) = false := by rfl) : PD X (.Call (.Name x p) (e :: es) [] pos) (dCa rd da) :=
  let ⟨_, h1, q1⟩ := ha; ⟨_, pe_callB hc hg hm hv h1 hn hdb hs hpl, hr.call q1⟩
theorem pl_callB {rd : List D → Gp → KDs → Prop} (hc : CallR X (.builtin id) r) (hr : AbCL X.K r rd) (hm : X.mg x = none) (ha : PDa X (e :: es) da) (hg : Gl X x := by rfl) (hv : bootBuiltins x = some (.builtin id) := by decide +kernel) (hn : x ≠ "__name__" := by decide) (hdb : (x == ("__debug__" : Str)) = false := by decide)
    (hs : starEach (e :: es) X.env = (false, eval e X.env) :: starEach es X.env := by rfl) (hpl : (backTo pos (starEach es X.env)).any (·.1) = false := by rfl) : PDl X (.Call (.Name x p) (e :: es) [] pos) (dCa rd da) :=
  let ⟨_, h1, q1⟩ := ha; ⟨_, pe_callB hc hg hm hv h1 hn hdb hs hpl, hr.call q1⟩
theorem pd_callTy {rd : DC} (hc : CallR X (.type T) r) (hr : AbC X.K r rd) (hm : X.mg x = none) (ha : PDa X (e :: es) da) (hg : Gl X x := by rfl) (hv : bootBuiltins x = some (.type T) := by decide +kernel) (hn : x ≠ "__name__" := by decide) (hdb : (x == ("__debug__" : Str)) = false := by decide)
    (hs : starEach (e :: es) X.env = (false, eval e X.env) :: starEach es X.env := by rfl) (hpl : (backTo pos (starEach es X.env)).any (·.1) = false := by rfl) : PD X (.Call (.Name x p) (e :: es) [] pos) (dCa rd da) :=
  let ⟨_, h1, q1⟩ := ha; ⟨_, pe_callTy hc hg hm hv h1 hn hdb hs hpl, hr.call q1⟩
theorem pl_callTy {rd : List D → Gp → KDs → Prop} (hc : CallR X (.type T) r) (hr : AbCL X.K r rd) (hm : X.mg x = none) (ha : PDa X (e :: es) da) (hg : Gl X x := by rfl) (hv : bootBuiltins x = some (.type T) := by decide +kernel) (hn : x ≠ "__name__" := by decide) (hdb : (x == ("__debug__" : Str)) = false := by decide)
    (hs : starEach (e :: es) X.env = (false, eval e X.env) :: starEach es X.env := by rfl) (hpl : (backTo pos (starEach es X.env)).any (·.1) = false := by rfl) : PDl X (.Call (.Name x p) (e :: es) [] pos) (dCa rd da) :=
  let ⟨_, h1, q1⟩ := ha; ⟨_, pe_callTy hc hg hm hv h1 hn hdb hs hpl, hr.call q1⟩
theorem pk_callTy {rd : List D → Gp → (List (Key × D) → Gp → Prop) → Prop} (hc : CallR X (.type T) r) (hr : AbCK X.K r rd) (hm : X.mg x = none) (ha : PDa X (e :: es) da) (hg : Gl X x := by rfl) (hv : bootBuiltins x = some (.type T) := by decide +kernel) (hn : x ≠ "__name__" := by decide) (hdb : (x == ("__debug__" : Str)) = false := by decide)
    (hs : starEach (e :: es) X.env = (false, eval e X.env) :: starEach es X.env := by rfl) (hpl : (backTo pos (starEach es X.env)).any (·.1) = false := by rfl) : PDk X (.Call (.Name x p) (e :: es) [] pos) (dCa rd da) :=
  let ⟨_, h1, q1⟩ := ha; ⟨_, pe_callTy hc hg hm hv h1 hn hdb hs hpl, hr.call q1⟩
end
end Dl

end
section
set_option maxHeartbeats 4000000
namespace Dl
open PySem PySem.Spec PyProof.Rows L2
/-! ### len -/
@[simp] def rLenD : DC := fun ds G Q => match ds with
  | [x] => (match asD G x with
    | .lst es => Q (.int es.length) G
    | .tup es => Q (.int es.length) G
    | .str s => Q (.int s.length) G
    | .dic ks => Q (.int ks.length) G
    | _ => False)
  | _ => False
def rLenV (K : PySem.W.Frag) : List V → Hp → VK → Prop := fun xs H Q => (∃ x n, xs = [x] ∧ LenV K x H n ∧ Q (.int n) H) ∨ ∃ a kvs, xs = [V.ref a] ∧ Rd H a (.dK kvs) ∧ Q (.int kvs.length) H
theorem cr_lenA {X : Cx} : CallR X (.builtin "len") (rLenV X.K) := by
  intro pins s σ H xs us Q I r h
  rcases h with h | ⟨a, kvs, rfl, ha, q⟩
  · exact call_len pins s σ H xs us Q I r h
  · obtain ⟨u, rfl, ru⟩ := vals1 r
    cases ru
    exact d_len I ha fun t s' I' => ⟨.int kvs.length, H, I', ⟨t, rfl⟩, q⟩
theorem ab_len {K : PySem.W.Frag} : AbC K (rLenV K) rLenD := by
  intro G H vs ds Qd Q g r h k
  unfold rLenD at h
  split at h
  · rename_i x
    cases r with
    | cons r rt =>
      cases rt
      split at h
      · rename_i es e
        obtain ⟨a, ws, rfl, hq, hv⟩ := sq_as g r e
        refine .inl ⟨_, ws.length, rfl, .inl ⟨ws, hq, rfl⟩, ?_⟩
        rw [hv.length]
        exact k _ _ G H (.refl g) (.int _) h
      · rename_i es e
        obtain ⟨a, ws, rfl, hq, hv⟩ := tup_as r e
        refine .inl ⟨_, ws.length, rfl, .inr ⟨ws, hq, rfl⟩, ?_⟩
        rw [hv.length]
        exact k _ _ G H (.refl g) (.int _) h
      · rename_i s e
        obtain ⟨rfl, hs⟩ := str_as r e
        exact .inl ⟨_, s.length, rfl, ⟨hs.1, rfl⟩, k _ _ G H (.refl g) (.int _) h⟩
      · rename_i ks e
        obtain ⟨a, ws, rfl, hq, hv⟩ := dk_as g r e
        refine .inr ⟨a, ws, rfl, hq, ?_⟩
        rw [hv.length]
        exact k _ _ G H (.refl g) (.int _) h
      · exact h.elim
  · exact h.elim
/-! ### isinstance of a built-in type -/
/-- the type, as far as it is told -/
@[simp] def tyD (G : Gp) : D → Option String
  | .non => some "NoneType"
  | .bl _ => some "bool"
  | .int _ => some "int"
  | .str _ => some "str"
  | .tup _ => some "tuple"
  | .lst _ => some "list"
  | .dic _ => some "dict"
  | .ref a => match G a with
    | some (.lst _) => some "list"
    | some (.dic _) => some "dict"
    | none => none
  | .ty _ => none
theorem tyx_of {K : PySem.W.Frag} {G : Gp} {H : Hp} (g : Gd K G H) {v : V} {d : D} {t : String} (r : RD K H v d) (h : tyD G d = some t) : TyX K H v (.type t) := by
  cases r with
  | non => cases h; exact .base .non
  | bl b => cases h; exact .base (.bl b)
  | int i => cases h; exact .base (.int i)
  | str _ => cases h; exact .base (.str _)
  | ty n => cases h
  | ref a =>
    have h' : (match G a with | some (.lst _) => some "list" | some (.dic _) => some "dict" | none => none) = some t := h
    cases e : G a with
    | none => rw [e] at h'; cases h'
    | some m =>
      cases m with
      | lst ds =>
        rw [e] at h'; cases h'
        obtain ⟨vs, q, _⟩ := g a _ e
        exact .base (.lst q)
      | dic ds =>
        rw [e] at h'; cases h'
        obtain ⟨vs, q, _⟩ := g a _ e
        exact .base (.dK q)
  | tup hq _ =>
    cases h
    rcases hq with (hq | ⟨o, hq⟩) | ⟨o, its, n, hk, hc, _⟩
    · exact .base (.tup hq)
    · exact .fTuple hq
    · exact .kTuple hk hc
  | lst hq _ =>
    cases h
    rcases hq with ⟨o, hq⟩ | ⟨o, its, n, hk, hc, _⟩
    · exact .base (.frz hq)
    · exact .kList hk hc
  | dic hq _ =>
    cases h
    exact .fDict hq
@[simp] def subTy (t T : String) : Bool := t == T || (t == "bool" && T == "int")
@[simp] def isiKnown (t T : String) : Bool := ["NoneType", "bool", "int", "str", "tuple", "list", "dict"].contains t && ["bool", "int", "str", "tuple", "list", "dict"].contains T
@[simp] def rIsiD : DC := fun ds G Q => match ds with
  | [x, .ty T] => ∃ t, tyD G x = some t ∧ isiKnown t T = true ∧ Q (.bl (subTy t T)) G
  | _ => False
theorem kit_known : ∀ t ∈ (["NoneType", "bool", "int", "str", "tuple", "list", "dict"] : List String), ∀ T ∈ (["bool", "int", "str", "tuple", "list", "dict"] : List String), kitB t T = some (subTy t T) := by decide +kernel
theorem ab_isi {K : PySem.W.Frag} : AbC K (rIsi K) rIsiD := by
  intro G H vs ds Qd Q g r h k
  unfold rIsiD at h
  split at h
  · rename_i x T
    obtain ⟨t, ht, hk, q⟩ := h
    cases r with
    | cons r rt =>
      cases rt with
      | cons r2 rt =>
        cases rt
        cases r2
        unfold isiKnown at hk
        rw [Bool.and_eq_true, List.contains_iff_mem, List.contains_iff_mem] at hk
        exact ⟨_, _, _, _, _, rfl, .ty T, tyx_of g r ht, kit_ty (kit_known t hk.1 T hk.2), k _ _ G H (.refl g) (.bl _) q⟩
  · exact h.elim
/-! ### all, any, sum, tuple, list, dict, int, abs, max, min -/
def isBl : D → Bool
  | .bl _ => true
  | _ => false
def asBl : D → Bool
  | .bl b => b
  | _ => false
def asInt : D → Int
  | .int i => i
  | _ => 0
def asStr : D → Str
  | .str s => s
  | _ => ⟨#[]⟩
def isStrD : D → Bool
  | .str _ => true
  | _ => false
theorem bls_of {K : PySem.W.Frag} {H : Hp} : ∀ {vs : List V} {ds : List D}, RDs K H vs ds → ds.all isBl = true → vs = (ds.map asBl).map V.bl
  | _, _, .nil, _ => rfl
  | _, d :: _, .cons r t, h => by
    rw [List.all_cons, Bool.and_eq_true] at h
    have e := bls_of t h.2
    cases d <;> first | (cases h.1; done) | skip
    cases r
    rw [e]; rfl
theorem ints_of {K : PySem.W.Frag} {H : Hp} : ∀ {vs : List V} {ds : List D}, RDs K H vs ds → ds.all isIntD = true → vs = (ds.map asInt).map V.int
  | _, _, .nil, _ => rfl
  | _, d :: _, .cons r t, h => by
    rw [List.all_cons, Bool.and_eq_true] at h
    have e := ints_of t h.2
    cases d <;> first | (cases h.1; done) | skip
    cases r
    rw [e]; rfl
theorem strs_of {K : PySem.W.Frag} {H : Hp} : ∀ {vs : List V} {ds : List D}, RDs K H vs ds → ds.all isStrD = true → vs = (ds.map asStr).map V.str ∧ ∀ s ∈ ds.map asStr, okS s
  | _, _, .nil, _ => ⟨rfl, fun s h => by cases h⟩
  | _, d :: _, .cons r t, h => by
    rw [List.all_cons, Bool.and_eq_true] at h
    obtain ⟨e, f⟩ := strs_of t h.2
    cases d <;> first | (cases h.1; done) | skip
    cases r with
    | str hs =>
      refine ⟨by rw [e]; rfl, fun s hs' => ?_⟩
      rcases List.mem_cons.mp hs' with z | z
      · rw [z]; exact hs
      · exact f s z
theorem rds_ints {K : PySem.W.Frag} {H : Hp} : ∀ ns : List Int, RDs K H (ns.map V.int) (ns.map D.int)
  | [] => .nil
  | n :: r => .cons (.int n) (rds_ints r)
theorem rds_strs {K : PySem.W.Frag} {H : Hp} : ∀ ss : List Str, (∀ s ∈ ss, okS s) → RDs K H (ss.map V.str) (ss.map D.str)
  | [], _ => .nil
  | n :: r, h => .cons (.str (h n List.mem_cons_self)) (rds_strs r fun s hs => h s (List.mem_cons_of_mem _ hs))
@[simp] def rAllD : DC := fun ds G Q => match ds with
  | [x] => ∃ es, asD G x = .lst es ∧ es.all isBl = true ∧ Q (.bl (es.all asBl)) G
  | _ => False
@[simp] def rAnyD : DC := fun ds G Q => match ds with
  | [x] => ∃ es, asD G x = .lst es ∧ es.all isBl = true ∧ Q (.bl (es.any asBl)) G
  | _ => False
@[simp] def rSumD : DC := fun ds G Q => match ds with
  | [x] => ∃ es, asD G x = .lst es ∧ es.all isIntD = true ∧ Q (.int (es.map asInt).sum) G
  | _ => False
theorem one_list {K : PySem.W.Frag} {G : Gp} {H : Hp} (g : Gd K G H) {vs : List V} {x : D} {es : List D} (r : RDs K H vs [x]) (e : asD G x = .lst es) : ∃ a ws, vs = [.ref a] ∧ SqL K H a ws ∧ RDs K H ws es := by
  cases r with
  | cons r rt =>
    cases rt
    obtain ⟨a, ws, rfl, hq, hv⟩ := sq_as g r e
    exact ⟨a, ws, rfl, hq, hv⟩
theorem ab_all {K : PySem.W.Frag} : AbC K (rAll K) rAllD := by
  intro G H vs ds Qd Q g r h k
  unfold rAllD at h
  split at h
  · obtain ⟨es, e, hb, q⟩ := h
    obtain ⟨a, ws, rfl, hq, hv⟩ := one_list g r e
    have e2 := bls_of hv hb
    subst e2
    refine ⟨a, es.map asBl, rfl, hq, ?_⟩
    rw [List.all_map]
    exact k _ _ G H (.refl g) (.bl _) q
  · exact h.elim
theorem ab_any {K : PySem.W.Frag} : AbC K (rAny K) rAnyD := by
  intro G H vs ds Qd Q g r h k
  unfold rAnyD at h
  split at h
  · obtain ⟨es, e, hb, q⟩ := h
    obtain ⟨a, ws, rfl, hq, hv⟩ := one_list g r e
    have e2 := bls_of hv hb
    subst e2
    refine ⟨a, es.map asBl, rfl, hq, ?_⟩
    rw [List.any_map]
    exact k _ _ G H (.refl g) (.bl _) q
  · exact h.elim
theorem ab_sum {K : PySem.W.Frag} : AbC K (rSum K) rSumD := by
  intro G H vs ds Qd Q g r h k
  unfold rSumD at h
  split at h
  · obtain ⟨es, e, hb, q⟩ := h
    obtain ⟨a, ws, rfl, hq, hv⟩ := one_list g r e
    have e2 := ints_of hv hb
    subst e2
    exact ⟨a, es.map asInt, rfl, hq, k _ _ G H (.refl g) (.int _) q⟩
  · exact h.elim
/-- max, min of a list of ints -/
@[simp] def rMaxLD : DC := fun ds G Q => match ds with
  | [x] => ∃ es, asD G x = .lst es ∧ es.all isIntD = true ∧ 0 < es.length ∧ ∀ m, m ∈ es.map asInt → (∀ y, y ∈ es.map asInt → y ≤ m) → Q (.int m) G
  | _ => False
@[simp] def rMinLD : DC := fun ds G Q => match ds with
  | [x] => ∃ es, asD G x = .lst es ∧ es.all isIntD = true ∧ 0 < es.length ∧ ∀ m, m ∈ es.map asInt → (∀ y, y ∈ es.map asInt → m ≤ y) → Q (.int m) G
  | _ => False
theorem ab_maxL {K : PySem.W.Frag} : AbC K (rMax K) rMaxLD := by
  intro G H vs ds Qd Q g r h k
  unfold rMaxLD at h
  split at h
  · obtain ⟨es, e, hb, hl, q⟩ := h
    obtain ⟨a, ws, rfl, hq, hv⟩ := one_list g r e
    have e2 := ints_of hv hb
    subst e2
    exact ⟨a, es.map asInt, rfl, hq, by rw [List.length_map]; exact hl, fun m h1 h2 => k _ _ G H (.refl g) (.int _) (q m h1 h2)⟩
  · exact h.elim
theorem ab_minL {K : PySem.W.Frag} : AbC K (rMin K) rMinLD := by
  intro G H vs ds Qd Q g r h k
  unfold rMinLD at h
  split at h
  · obtain ⟨es, e, hb, hl, q⟩ := h
    obtain ⟨a, ws, rfl, hq, hv⟩ := one_list g r e
    have e2 := ints_of hv hb
    subst e2
    exact ⟨a, es.map asInt, rfl, hq, by rw [List.length_map]; exact hl, fun m h1 h2 => k _ _ G H (.refl g) (.int _) (q m h1 h2)⟩
  · exact h.elim
@[simp] def rAbsD : DC := fun ds G Q => match ds with
  | [.int i] => Q (.int (if i < 0 then -i else i)) G
  | _ => False
@[simp] def rMax2D : DC := fun ds G Q => match ds with
  | [.int i, .int j] => Q (.int (if j > i then j else i)) G
  | _ => False
@[simp] def rMin2D : DC := fun ds G Q => match ds with
  | [.int i, .int j] => Q (.int (if j < i then j else i)) G
  | _ => False
@[simp] def rIntD : DC := fun ds G Q => match ds with
  | [.int i] => Q (.int i) G
  | [.bl b] => Q (.int (if b then 1 else 0)) G
  | _ => False
theorem ab_abs {K : PySem.W.Frag} : AbC K (fun xs H Q => ∃ i, xs = [.int i] ∧ Q (.int (if i < 0 then -i else i)) H) rAbsD := by
  intro G H vs ds Qd Q g r h k
  unfold rAbsD at h
  split at h
  · cases r with
    | cons r rt => cases rt; cases r; exact ⟨_, rfl, k _ _ G H (.refl g) (.int _) h⟩
  · exact h.elim
theorem ab_max2 {K : PySem.W.Frag} : AbC K (fun xs H Q => ∃ i j, xs = [.int i, .int j] ∧ Q (.int (if j > i then j else i)) H) rMax2D := by
  intro G H vs ds Qd Q g r h k
  unfold rMax2D at h
  split at h
  · cases r with
    | cons r rt => cases rt with
      | cons r2 rt => cases rt; cases r; cases r2; exact ⟨_, _, rfl, k _ _ G H (.refl g) (.int _) h⟩
  · exact h.elim
theorem ab_min2 {K : PySem.W.Frag} : AbC K (fun xs H Q => ∃ i j, xs = [.int i, .int j] ∧ Q (.int (if j < i then j else i)) H) rMin2D := by
  intro G H vs ds Qd Q g r h k
  unfold rMin2D at h
  split at h
  · cases r with
    | cons r rt => cases rt with
      | cons r2 rt => cases rt; cases r; cases r2; exact ⟨_, _, rfl, k _ _ G H (.refl g) (.int _) h⟩
  · exact h.elim
theorem ab_int {K : PySem.W.Frag} : AbC K (fun xs H Q => (∃ i, xs = [.int i] ∧ Q (.int i) H) ∨ ∃ k, xs = [.bl k] ∧ Q (.int (if k then 1 else 0)) H) rIntD := by
  intro G H vs ds Qd Q g r h k
  unfold rIntD at h
  split at h
  · cases r with
    | cons r rt => cases rt; cases r; exact .inl ⟨_, rfl, k _ _ G H (.refl g) (.int _) h⟩
  · cases r with
    | cons r rt => cases rt; cases r; exact .inr ⟨_, rfl, k _ _ G H (.refl g) (.int _) h⟩
  · exact h.elim
@[simp] def rTupleD : DC := fun ds G Q => match ds with
  | [x] => (match asD G x with
    | .lst es => Q (.tup es) G
    | .tup es => Q (.tup es) G
    | _ => False)
  | _ => False
theorem ab_tuple {K : PySem.W.Frag} : AbC K (fun xs H Q => ∃ p ys, xs = [.ref p] ∧ ((SqL K H p ys ∧ ∀ l, H l = none → Q (.ref l) (upd H l (.tup ys))) ∨ (SqT K H p ys ∧ Q (.ref p) H))) rTupleD := by
  intro G H vs ds Qd Q g r h k
  unfold rTupleD at h
  split at h
  · cases r with
    | cons r rt =>
      cases rt
      split at h
      · rename_i es e
        obtain ⟨a, ws, rfl, hq, hv⟩ := sq_as g r e
        exact ⟨a, ws, rfl, .inl ⟨hq, fun l hl => k _ _ _ _ (.new g hl) (.tup (.of upd_same) (hv.sb (sb_new hl))) h⟩⟩
      · rename_i es e
        obtain ⟨a, ws, rfl, hq, hv⟩ := tup_as r e
        exact ⟨a, ws, rfl, .inr ⟨hq, k _ _ G H (.refl g) (.tup hq hv) h⟩⟩
      · exact h.elim
  · exact h.elim
def rListD' : List D → Gp → KDs → Prop := fun ds G Q => match ds with
  | [x] => (match asD G x with
    | .lst es => Q es G
    | .tup es => Q es G
    | _ => False)
  | _ => False
theorem ab_list {K : PySem.W.Frag} : AbCL K (fun xs H Q => ∃ p ys, xs = [.ref p] ∧ (SqL K H p ys ∨ SqT K H p ys) ∧ ∀ l, H l = none → Q (.ref l) (upd H l (.lst ys))) rListD' := by
  intro G H vs ds Qd Q g r h k
  unfold rListD' at h
  split at h
  · cases r with
    | cons r rt =>
      cases rt
      split at h
      · rename_i es e
        obtain ⟨a, ws, rfl, hq, hv⟩ := sq_as g r e
        exact ⟨a, ws, rfl, .inl hq, fun l hl => k l ws es _ _ (.new g hl) (g.none_of hl) hl upd_same (hv.sb (sb_new hl)) h⟩
      · rename_i es e
        obtain ⟨a, ws, rfl, hq, hv⟩ := tup_as r e
        exact ⟨a, ws, rfl, .inr hq, fun l hl => k l ws es _ _ (.new g hl) (g.none_of hl) hl upd_same (hv.sb (sb_new hl)) h⟩
      · exact h.elim
  · exact h.elim
/-- pairs of key and value -/
def pairsD : List D → Option (List (Key × D))
  | [] => some []
  | .tup [k, v] :: r => match keyD k, pairsD r with
    | some k, some r => some ((k, v) :: r)
    | _, _ => none
  | _ => none
def mergeD (kvs more : List (Key × D)) : List (Key × D) := more.foldl (fun acc kv => putD acc kv.1 kv.2) kvs
@[simp] def rDictD : List D → Gp → (List (Key × D) → Gp → Prop) → Prop := fun ds G Q => match ds with
  | [x] => ∃ es ps, asD G x = .lst es ∧ pairsD es = some ps ∧ Q (mergeD [] ps) G
  | _ => False
theorem RDk.merge {K : PySem.W.Frag} {H : Hp} : ∀ (ks : List (Key × D)) {vs us : List (Key × V)} {ls : List (Key × D)}, RDk K H vs ks → RDk K H us ls → RDk K H (mergeK us vs) (mergeD ls ks)
  | [], vs, us, ls, r, s => by
    cases r
    exact s
  | (k, d) :: ks, vs, us, ls, r, s => by
    cases r with
    | @cons _ v vs _ _ o r t =>
      show RDk K H (mergeK (putK us k v) vs) (mergeD (putD ls k d) ks)
      exact RDk.merge ks t (s.put k o r)
theorem pairs_rel {K : PySem.W.Frag} {H : Hp} : ∀ (es : List D) {ws : List V} {ps : List (Key × D)}, RDs K H ws es → pairsD es = some ps →
    ∃ (as : List Addr) (kvs : List (Key × V)), ws = as.map V.ref ∧ Paired (fun p kv => SqT K H p [kV kv.1, kv.2]) as kvs ∧ RDk K H kvs ps
  | [], _, _, r, h => by
    cases r
    cases h
    exact ⟨[], [], rfl, .nil, .nil⟩
  | d :: es, _, ps, r, h => by
    unfold pairsD at h
    split at h
    · rename_i e; cases e
    · rename_i k v rr e
      cases e
      split at h
      · rename_i k' rps hk hr
        cases h
        cases r with
        | cons r rt =>
          obtain ⟨as, kvs, rfl, hp, hd⟩ := pairs_rel es rt hr
          cases r with
          | tup hq rv =>
            cases rv with
            | cons rk rv =>
              cases rv with
              | cons rv rn =>
                cases rn
                have ek := keyD_of rk hk
                have ok := okK_of rk hk
                subst ek
                exact ⟨_ :: as, (k', _) :: kvs, rfl, .cons hq hp, .cons ok rv hd⟩
      · cases h
    · cases h
theorem ab_dict {K : PySem.W.Frag} : AbCK K (fun xs H Q => ∃ (a : Addr) (ps : List Addr) (kvs : List (Key × V)), xs = [.ref a] ∧ SqL K H a (ps.map V.ref) ∧ Paired (fun p kv => SqT K H p [kV kv.1, kv.2]) ps kvs ∧ ∀ p, H p = none → Q (.ref p) (upd H p (.dK (mergeK [] kvs)))) rDictD := by
  intro G H vs ds Qd Q g r h k
  unfold rDictD at h
  split at h
  · obtain ⟨es, ps, e, hp, q⟩ := h
    obtain ⟨a, ws, rfl, hq, hv⟩ := one_list g r e
    obtain ⟨as, kvs, rfl, h1, h2⟩ := pairs_rel es hv hp
    exact ⟨a, as, kvs, rfl, hq, h1, fun p hl => k p _ _ _ _ (.new g hl) (g.none_of hl) hl upd_same ((RDk.merge ps h2 .nil).sb (sb_new hl)) q⟩
  · exact h.elim
/-- sorted of ints; of texts (below 64) -/
def rSortID : List D → Gp → KDs → Prop := fun ds G Q => match ds with
  | [x] => ∃ es, asD G x = .lst es ∧ es.all isIntD = true ∧ ∀ ns : List Int, ns.Perm (es.map asInt) → ns.Pairwise (· ≤ ·) → Q (ns.map D.int) G
  | _ => False
theorem ab_sortI {K : PySem.W.Frag} : AbCL K (rSortedI K) rSortID := by
  intro G H vs ds Qd Q g r h k
  unfold rSortID at h
  split at h
  · obtain ⟨es, e, hb, q⟩ := h
    obtain ⟨a, ws, rfl, hq, hv⟩ := one_list g r e
    have e2 := ints_of hv hb
    subst e2
    exact ⟨a, es.map asInt, rfl, hq, fun ns p h1 h2 hp => k p _ _ _ _ (.new g hp) (g.none_of hp) hp upd_same (rds_ints ns) (q ns h1 h2)⟩
  · exact h.elim
end Dl

end
section
set_option maxHeartbeats 4000000
namespace Dl
open PySem PySem.Spec PyProof.Rows L2

/-! ### statements -/
structure DEnds where
  nx : Sd → Gp → Prop
  rt : KD
  bk : Sd → Gp → Prop := fun _ _ => False
  ct : Sd → Gp → Prop := fun _ _ => False
abbrev DS := DEnds → Sd → Gp → Prop
/-- what is wanted over the heap follows from what is wanted over data -/
structure Ct (K : PySem.W.Frag) (G : Gp) (H : Hp) (Dd : DEnds) (D : Ends) : Prop where
  nx : ∀ σ' σd' G' H', Go K G H G' H' → RE K H' σ' σd' → Dd.nx σd' G' → D.nx σ' H'
  rt : ∀ v d G' H', Go K G H G' H' → RD K H' v d → Dd.rt d G' → D.rt v H'
  bk : ∀ σ' σd' G' H', Go K G H G' H' → RE K H' σ' σd' → Dd.bk σd' G' → D.bk σ' H'
  ct : ∀ σ' σd' G' H', Go K G H G' H' → RE K H' σ' σd' → Dd.ct σd' G' → D.ct σ' H'
theorem Ct.go {K : PySem.W.Frag} {G G1 : Gp} {H H1 : Hp} {Dd : DEnds} {D : Ends} (c : Ct K G H Dd D) (o : Go K G H G1 H1) : Ct K G1 H1 Dd D :=
  ⟨fun σ' σd' G' H' x => c.nx σ' σd' G' H' (o.trans x), fun v d G' H' x => c.rt v d G' H' (o.trans x), fun σ' σd' G' H' x => c.bk σ' σd' G' H' (o.trans x), fun σ' σd' G' H' x => c.ct σ' σd' G' H' (o.trans x)⟩
def AbS (K : PySem.W.Frag) (ts : TS) (ds : DS) : Prop := ∀ G H σ σd Dd D, Gd K G H → RE K H σ σd → ds Dd σd G → Ct K G H Dd D → ts D σ H
def PSd (X : Cx) (st : Stmt) (ds : DS) : Prop := ∃ ts, PS X st ts ∧ AbS X.K ts ds
def PSsd (X : Cx) (st : List Stmt) (ds : DS) : Prop := ∃ ts, PSs X st ts ∧ AbS X.K ts ds
abbrev DG := D → Sd → Gp → (Sd → Gp → Prop) → Prop
abbrev DGs := List D → Sd → Gp → (Sd → Gp → Prop) → Prop
def AbG (K : PySem.W.Frag) (tg : TG) (dg : DG) : Prop := ∀ G H σ σd v d (Qd : Sd → Gp → Prop) (Q : L2.St → Hp → Prop), Gd K G H → RE K H σ σd → RD K H v d → dg d σd G Qd → (∀ σ' σd' G' H', Go K G H G' H' → RE K H' σ' σd' → Qd σd' G' → Q σ' H') → tg v σ H Q
def AbGs (K : PySem.W.Frag) (tg : TGs) (dg : DGs) : Prop := ∀ G H σ σd vs ds (Qd : Sd → Gp → Prop) (Q : L2.St → Hp → Prop), Gd K G H → RE K H σ σd → RDs K H vs ds → dg ds σd G Qd → (∀ σ' σd' G' H', Go K G H G' H' → RE K H' σ' σd' → Qd σd' G' → Q σ' H') → tg vs σ H Q
def PGd (X : Cx) (tg : Expr) (dg : DG) : Prop := ∃ g, PG X tg g ∧ AbG X.K g dg
def PGsd (X : Cx) (tg : List Expr) (dg : DGs) : Prop := ∃ g, PGs X tg g ∧ AbGs X.K g dg
section
variable {K : PySem.W.Frag}
@[simp] def gdName (i : Nat) : DG := fun d σ G Q => Q (σ.set i (some d)) G
theorem abg_name {i : Nat} : AbG K (gName i) (gdName i) := fun G H σ σd v d Qd Q g re r h k => k _ _ G H (.refl g) (re.set r i) h
@[simp] def gdNil : DGs := fun ds σ G Q => ds = [] ∧ Q σ G
@[simp] def gdCons (g : DG) (gs : DGs) : DGs := fun ds σ G Q => match ds with
  | d :: r => g d σ G fun σ1 G1 => gs r σ1 G1 Q
  | [] => False
@[simp] def gdTup (n : Nat) (gs : DGs) : DG := fun d σ G Q => match d with
  | .tup ds => ds.length = n ∧ gs ds σ G Q
  | _ => False
theorem abg_nil : AbGs K gNil gdNil := fun G H σ σd vs ds Qd Q g re r ⟨e, h⟩ k => by
  subst e
  cases r
  exact ⟨rfl, k _ _ G H (.refl g) re h⟩
theorem abg_cons {g1 : TG} {d1 : DG} {gs : TGs} {dgs : DGs} (h1 : AbG K g1 d1) (h2 : AbGs K gs dgs) : AbGs K (gCons g1 gs) (gdCons d1 dgs) := fun G H σ σd vs ds Qd Q g re r h k => by
  cases r with
  | nil => exact h.elim
  | cons r t =>
    refine ⟨_, _, rfl, h1 G H σ σd _ _ _ _ g re r h fun σ1 σd1 G1 H1 o re1 q1 => ?_⟩
    exact h2 G1 H1 σ1 σd1 _ _ _ _ o.gd re1 (t.sb (o.sb g)) q1 fun σ2 σd2 G2 H2 o2 re2 q2 => k _ _ _ _ (o.trans o2) re2 q2
theorem abg_tup {n : Nat} {gs : TGs} {dgs : DGs} (h : AbGs K gs dgs) : AbG K (gTup K n gs) (gdTup n dgs) := fun G H σ σd v d Qd Q g re r hd k => by
  cases d <;> first | exact hd.elim | skip
  cases r with
  | tup hq r =>
    exact ⟨_, _, rfl, hq, by rw [r.length]; exact hd.1, h G H σ σd _ _ _ _ g re r hd.2 k⟩
end
section
variable {X : Cx} {pos : Pos}
theorem pgd_name {i : Nat} {x : Str} (hN : X.N.Nodup) (hi : X.N[i]? = some x) (hx : Loc X.env.scope x) (hf : X.fn x = true ∨ X.env.scope.names.lookup x = some .local := by first | exact .inl rfl | exact .inr rfl | assumption) : PGd X (.Name x pos) (gdName i) :=
  ⟨_, pg_name hN hi hx hf, abg_name⟩
theorem pgsd_nil : PGsd X [] gdNil := ⟨_, pgs_nil, abg_nil⟩
theorem pgsd_cons {e : Expr} {es : List Expr} {t : DG} {u : DGs} (h1 : PGd X e t) (h2 : PGsd X es u) (hs : (assignEach (e :: es) X.env).map (·.2) = assign e X.env :: (assignEach es X.env).map (·.2) := by rfl) : PGsd X (e :: es) (gdCons t u) :=
  let ⟨_, a1, b1⟩ := h1; let ⟨_, a2, b2⟩ := h2; ⟨_, pgs_cons a1 a2 hs, abg_cons b1 b2⟩
theorem pgd_tup {es : List Expr} {k : Nat} {t : DGs} {n : Nat} (hc : X.calm = true) (h : PGsd X es t) (hn : (assignEach es X.env).length = n := by rfl) (hst : (assignEach es X.env).findIdx? (·.1) = none := by rfl) : PGd X (.Tuple es k pos) (gdTup n t) :=
  let ⟨_, a, b⟩ := h; ⟨_, pg_tup hc a hn hst, abg_tup b⟩

/-! ### blocks -/
@[simp] def dNext : DS := fun Dd σ G => Dd.nx σ G
@[simp] def dSeq (t u : DS) : DS := fun Dd σ G => t { Dd with nx := u Dd } σ G
theorem abs_next {K : PySem.W.Frag} : AbS K tNext dNext := fun G H σ σd Dd D g re h c => c.nx σ σd G H (.refl g) re h
theorem abs_seq {K : PySem.W.Frag} {t u : TS} {dt du : DS} (h1 : AbS K t dt) (h2 : AbS K u du) : AbS K (tSeq t u) (dSeq dt du) := fun G H σ σd Dd D g re h c =>
  h1 G H σ σd _ _ g re h ⟨fun σ' σd' G' H' o re' q => h2 G' H' σ' σd' Dd D o.gd re' q (c.go o), c.rt, c.bk, c.ct⟩
variable {st : Stmt} {rest : List Stmt} {e c : Expr} {de : DE} {dt : DT} {ds du : DS}
theorem psd_nil : PSsd X [] dNext := ⟨_, pss_nil, abs_next⟩
theorem psd_cons (h1 : PSd X st ds) (h2 : PSsd X rest du) : PSsd X (st :: rest) (dSeq ds du) := let ⟨_, a1, b1⟩ := h1; let ⟨_, a2, b2⟩ := h2; ⟨_, pss_cons a1 a2, abs_seq b1 b2⟩
theorem psd_one (h1 : PSd X st ds) : PSsd X [st] ds := let ⟨_, a1, b1⟩ := h1; ⟨_, pss_one a1, b1⟩
@[simp] def dBreak : DS := fun Dd σ G => Dd.bk σ G
@[simp] def dCont : DS := fun Dd σ G => Dd.ct σ G
theorem psd_pass : PSd X (.Pass pos) dNext := ⟨_, ps_pass, abs_next⟩
theorem psd_break : PSd X (.Break pos) dBreak := ⟨_, ps_break, fun G H σ σd Dd D g re h c => c.bk σ σd G H (.refl g) re h⟩
theorem psd_continue : PSd X (.Continue pos) dCont := ⟨_, ps_continue, fun G H σ σd Dd D g re h c => c.ct σ σd G H (.refl g) re h⟩
@[simp] def dDrop (de : DE) : DS := fun Dd σ G => de σ G fun _ G1 => Dd.nx σ G1
theorem psd_expr (h : PD X e de) (hs : swapsWith e none pos.line X.env = pure false := by rfl) : PSd X (.Expr e pos) (dDrop de) :=
  let ⟨_, a, b⟩ := h; ⟨_, ps_expr a hs, fun G H σ σd Dd D g re h c => b G H σ σd _ _ g re h fun v d G1 H1 o r q => c.nx σ σd G1 H1 o (re.sb (o.sb g)) q⟩
@[simp] def dRet (de : DE) : DS := fun Dd σ G => de σ G Dd.rt
theorem psd_ret (h : PD X e de) : PSd X (.Return (some e) pos) (dRet de) :=
  let ⟨_, a, b⟩ := h; ⟨_, ps_ret a, fun G H σ σd Dd D g re h c => b G H σ σd _ _ g re h fun v d G1 H1 o r q => c.rt v d G1 H1 o r q⟩
@[simp] def dRetN : DS := fun Dd _ G => Dd.rt .non G
theorem psd_retN : PSd X (.Return none pos) dRetN := ⟨_, ps_retN, fun G H σ σd Dd D g re h c => c.rt .non .non G H (.refl g) .non h⟩
@[simp] def dIfS (dt : DT) (t u : DS) : DS := fun Dd σ G => dt σ G fun b G1 => if b = true then t Dd σ G1 else u Dd σ G1
theorem psd_if {a b : List Stmt} (hc : PDt X c dt) (ha : PSsd X a ds) (hb : PSsd X b du) : PSd X (.If c a b pos) (dIfS dt ds du) := by
  obtain ⟨_, a0, b0⟩ := hc
  obtain ⟨_, a1, b1⟩ := ha
  obtain ⟨_, a2, b2⟩ := hb
  refine ⟨_, ps_if a0 a1 a2, fun G H σ σd Dd D g re h c => b0 G H σ σd _ _ g re h fun k G1 H1 o q => ?_⟩
  cases k with
  | true => rw [if_pos rfl] at q ⊢; exact b1 G1 H1 σ σd Dd D o.gd (re.sb (o.sb g)) q (c.go o)
  | false => rw [if_neg Bool.false_ne_true] at q ⊢; exact b2 G1 H1 σ σd Dd D o.gd (re.sb (o.sb g)) q (c.go o)
@[simp] def dNever : DS := fun _ _ _ => False
theorem psd_never : PSd X st dNever := ⟨_, ps_never, fun G H σ σd Dd D g re h c => h.elim⟩
/-! ### stores -/
@[simp] def dAsg (de : DE) (dg : DG) : DS := fun Dd σ G => de σ G fun d G1 => dg d σ G1 Dd.nx
theorem abs_asg {K : PySem.W.Frag} {te : TE} {g : TG} {dg : DG} (h1 : AbE K te de) (h2 : AbG K g dg) : AbS K (tAsg te g) (dAsg de dg) := fun G H σ σd Dd D gd re h c =>
  h1 G H σ σd _ _ gd re h fun v d G1 H1 o r q => h2 G1 H1 σ σd v d _ _ o.gd (re.sb (o.sb gd)) r q fun σ2 σd2 G2 H2 o2 re2 q2 => c.nx _ _ _ _ (o.trans o2) re2 q2
theorem psd_set {i : Nat} {x : Str} {pos' : Pos} (hN : X.N.Nodup) (hi : X.N[i]? = some x) (hx : Loc X.env.scope x) (he : PD X e de) (hs : swapsWith e (some (.Name x pos')) pos.line X.env = pure false := by rfl) (hf : X.fn x = true ∨ X.env.scope.names.lookup x = some .local := by first | exact .inl rfl | exact .inr rfl | assumption) :
    PSd X (.Assign [.Name x pos'] e pos) (dAsg de (gdName i)) := let ⟨_, a, b⟩ := he; ⟨_, ps_set hN hi hx a hs hf, abs_asg b abg_name⟩
theorem psd_asg {tg : Expr} {dg : DG} (he : PD X e de) (hg : PGd X tg dg) (hs : swapsWithSole [tg] e pos.line X.env = pure false := by rfl) (hw : swappedStores [tg] e X.env = pure none := by rfl)
    (h1 : (assignEach [tg] X.env).map (·.2) = [assign tg X.env] := by rfl) : PSd X (.Assign [tg] e pos) (dAsg de dg) := let ⟨_, a, b⟩ := he; let ⟨_, a2, b2⟩ := hg; ⟨_, ps_asg a a2 hs hw h1, abs_asg b b2⟩
/-- a, b = x, y -/
@[simp] def dPar (i j : Nat) (da : DA) : DS := fun Dd σ G => da σ G fun ds G1 => match ds with
  | [v, w] => Dd.nx ((σ.set i (some v)).set j (some w)) G1
  | _ => False
theorem psd_par {i j : Nat} {x y : Str} {a b : Expr} {da : DA} {px py pt : Pos} {kt k2 pt2} (hc : X.calm = true) (hN : X.N.Nodup) (hi : X.N[i]? = some x) (hj : X.N[j]? = some y) (hij : i ≠ j)
    (hx : X.env.scope.names.lookup x = some .local) (hy : X.env.scope.names.lookup y = some .local) (ha : PDa X [a, b] da)
    (hw : swappedStores [.Tuple [.Name x px, .Name y py] kt pt] (.Tuple [a, b] k2 pt2) X.env = pure (some [x, y]))
    (hs : swapsWithSole [.Tuple [.Name x px, .Name y py] kt pt] (.Tuple [a, b] k2 pt2) pos.line X.env = pure false := by rfl) :
    PSd X (.Assign [.Tuple [.Name x px, .Name y py] kt pt] (.Tuple [a, b] k2 pt2) pos) (dPar i j da) := by
  obtain ⟨_, a1, b1⟩ := ha
  refine ⟨_, ps_par hc hN hi hj hij hx hy a1 hw hs, fun G H σ σd Dd D g re h c => b1 G H σ σd _ _ g re h fun vs ds G1 H1 o r q => ?_⟩
  match ds, r, q with
  | [d, e], .cons r1 (.cons r2 .nil), q => exact ⟨_, _, rfl, c.nx _ _ G1 H1 o (((re.sb (o.sb g)).set r1 i).set r2 j) q⟩
/-- d[k] = v -/
@[simp] def dPut (dd dk dv : DE) : DS := fun Dd σ G => dv σ G fun v G1 => dd σ G1 fun x G2 => dk σ G2 fun y G3 => ∃ a ks k, x = .ref a ∧ G3 a = some (.dic ks) ∧ keyD y = some k ∧ ks.length < 100000 ∧ Dd.nx σ (updG G3 a (.dic (putD ks k v)))
theorem psd_put {o i value : Expr} {pos' : Pos} {dd dk dv : DE} (hu : X.A.units + 64 < cLine) (ho : PD X o dd) (hi : PD X i dk) (hv : PD X value dv) (hs : swapsWith value (some (.Subscript o i pos')) pos.line X.env = pure false := by rfl) :
    PSd X (.Assign [.Subscript o i pos'] value pos) (dPut dd dk dv) := by
  obtain ⟨_, a1, b1⟩ := ho
  obtain ⟨_, a2, b2⟩ := hi
  obtain ⟨_, a3, b3⟩ := hv
  refine ⟨_, ps_dput (by omega) a1 a2 a3 hs, fun G H σ σd Dd D g re h c => b3 G H σ σd _ _ g re h fun v d G1 H1 o1 r1 q1 => ?_⟩
  refine b1 G1 H1 σ σd _ _ o1.gd (re.sb (o1.sb g)) q1 fun x dx G2 H2 o2 r2 q2 => ?_
  have o12 := o1.trans o2
  refine b2 G2 H2 σ σd _ _ o2.gd (re.sb (o12.sb g)) q2 fun y dy G3 H3 o3 r3 ⟨a, ks, k, ex, ea, ek, hz, q3⟩ => ?_
  have o123 := o12.trans o3
  subst ex
  cases r2
  obtain ⟨vs, hH, hr⟩ := o3.gd a _ ea
  have rv := r1.sb ((o2.trans o3).sb o1.gd)
  refine ⟨a, _, rfl, .inl ⟨vs, k, hH, keyD_of r3 ek, by rw [hr.length]; exact Nat.lt_of_lt_of_le hz (by decide), rfl⟩, ?_⟩
  have o4 : Go X.K G3 H3 (updG G3 a (.dic (putD ks k d))) (upd H3 a (.dK (putK vs k v))) := .write o3.gd ea ⟨_, upd_same, (hr.put k (okK_of r3 ek) rv).sb (sb_write o3.gd ea)⟩
  exact c.nx _ _ _ _ (o123.trans o4) (re.sb ((o123.trans o4).sb g)) q3
/-- xs[i] = v -/
@[simp] def gdSubL (dd di : DE) : DG := fun v σ G Q => dd σ G fun x G1 => di σ G1 fun y G2 => ∃ a ds i j, x = .ref a ∧ y = .int i ∧ G2 a = some (.lst ds) ∧ ixN ds.length i = some j ∧ Q σ (updG G2 a (.lst (ds.set j v)))
theorem pgd_subL {o i : Expr} {dd di : DE} (ho : PD X o dd) (hi : PD X i di)
    (ha : ∀ v, assign (.Subscript o i pos) X.env v = (do
      let ov ← holding [v] (eval o X.env)
      let iv ← holding [v, ov] (eval i X.env)
      standAt pos
      holding [v, ov, iv] (setItem ov iv v)
      release [v, ov, iv] []) := by intro _; rfl) : PGd X (.Subscript o i pos) (gdSubL dd di) := by
  obtain ⟨_, a1, b1⟩ := ho
  obtain ⟨_, a2, b2⟩ := hi
  refine ⟨_, pg_sub a1 a2 set_list ha, fun G H σ σd v d Qd Q g re r h k => b1 G H σ σd _ _ g re h fun x dx G1 H1 o1 r1 q1 => ?_⟩
  refine b2 G1 H1 σ σd _ _ o1.gd (re.sb (o1.sb g)) q1 fun y dy G2 H2 o2 r2 ⟨a, ds, z, j, ex, ey, ea, hj, q2⟩ => ?_
  have o12 := o1.trans o2
  subst ex ey
  cases r1
  cases r2
  obtain ⟨vs, hH, hr⟩ := o2.gd a _ ea
  refine ⟨a, vs, z, j, rfl, rfl, hH, by rw [hr.length]; exact hj, ?_⟩
  have rv := r.sb (o12.sb g)
  have o4 : Go X.K G2 H2 (updG G2 a (.lst (ds.set j d))) (upd H2 a (.lst (vs.set j v))) := .write o2.gd ea ⟨_, upd_same, (hr.set rv j).sb (sb_write o2.gd ea)⟩
  exact k _ _ _ _ (o12.trans o4) (re.sb ((o12.trans o4).sb g)) q2
end

/-! ### what is walked -/
abbrev DI := Sd → Gp → (List D → Gp → Prop) → Prop
/-- from (G1, H1) on: what is walked are these items -/
structure Wk (K : PySem.W.Frag) (J : It) (items : List D) (G1 : Gp) (H1 : Hp) : Prop where
  go : ∀ G H, Go K G1 H1 G H → ∀ i d, items[i]? = some d → J.go i H ∧ ∀ x H', J.yld i H x H' → Go K G H G H' ∧ RD K H' x d
  stop : ∀ G H i, Go K G1 H1 G H → items.length ≤ i → J.stop i H
  sz : items.length ≤ sizeLine
def AbI (K : PySem.W.Frag) (wi : TI) (di : DI) : Prop := ∀ G H σ σd (Qd : List D → Gp → Prop) (R : It → Hp → Prop), Gd K G H → RE K H σ σd → di σd G Qd →
  (∀ J items G1 H1, Go K G H G1 H1 → Wk K J items G1 H1 → Qd items G1 → R J H1) → wi σ H R
def PId (X : Cx) (tg iter : Expr) (di : DI) : Prop := ∃ wi, PI X tg iter wi ∧ AbI X.K wi di

/-! ### for -/
def forGo (dg : DG) (db : DS) (Dd : DEnds) : List D → Sd → Gp → Prop
  | [], σ, G => Dd.nx σ G
  | x :: r, σ, G => dg x σ G fun σ1 G1 => db { Dd with nx := forGo dg db Dd r, ct := forGo dg db Dd r, bk := Dd.nx } σ1 G1
@[simp] def dFor (di : DI) (dg : DG) (db : DS) : DS := fun Dd σ G => di σ G fun items G1 => forGo dg db Dd items σ G1
theorem drop_cons {α : Type} : ∀ {l : List α} {i : Nat} {x : α}, l[i]? = some x → l.drop i = x :: l.drop (i + 1)
  | [], _, _, h => by simp at h
  | a :: r, 0, x, h => by
    have e : a = x := by simpa using h
    subst e; rfl
  | a :: r, i + 1, x, h => by
    show r.drop i = _
    exact drop_cons (l := r) (by simpa using h)
theorem abs_for {K : PySem.W.Frag} {wi : TI} {g : TG} {tb : TS} {di : DI} {dg : DG} {db : DS} (h1 : AbI K wi di) (h2 : AbG K g dg) (h3 : AbS K tb db) : AbS K (tFor wi g tb) (dFor di dg db) := fun G H σ σd Dd D gd re h c => by
  refine h1 G H σ σd _ _ gd re h fun J items G1 H1 o1 W q1 => ?_
  refine ⟨fun i m σ' H' => m = items.length - i ∧ i ≤ items.length ∧ ∃ σd' G', Go K G1 H1 G' H' ∧ RE K H' σ' σd' ∧ forGo dg db Dd (items.drop i) σd' G', ⟨_, rfl, Nat.zero_le _, σd, G1, .refl o1.gd, re.sb (o1.sb gd), q1⟩, ?_⟩
  rintro i m σ2 H2 ⟨rfl, hi, σd2, G2, o2, re2, q2⟩
  by_cases hlt : i < items.length
  · have hx : items[i]? = some items[i] := List.getElem?_eq_getElem hlt
    obtain ⟨g1, g2⟩ := W.go G2 H2 o2 i _ hx
    rw [drop_cons hx] at q2
    refine .inr ⟨g1, fun σ' H' => ∃ σd' G', Go K G1 H1 G' H' ∧ RE K H' σ' σd' ∧ forGo dg db Dd (items.drop (i + 1)) σd' G', fun σ' H' p => ⟨items.length - (i + 1), by omega, rfl, hlt, p⟩, fun x H3 y => ?_⟩
    obtain ⟨o3, r3⟩ := g2 x H3 y
    refine h2 G2 H3 σ2 σd2 x _ _ _ o3.gd (re2.sb (o3.sb o2.gd)) r3 q2 fun σ4 σd4 G4 H4 o4 re4 q4 => ?_
    have o24 := (o2.trans o3).trans o4
    have o14 := o1.trans o24
    refine h3 G4 H4 σ4 σd4 _ _ o4.gd re4 q4 ⟨fun σ5 σd5 G5 H5 o5 re5 q5 => ⟨σd5, G5, o24.trans o5, re5, q5⟩, fun v d G5 H5 o5 r5 q5 => c.rt v d G5 H5 (o14.trans o5) r5 q5,
      fun σ5 σd5 G5 H5 o5 re5 q5 => c.nx _ _ _ _ (o14.trans o5) re5 q5, fun σ5 σd5 G5 H5 o5 re5 q5 => ⟨σd5, G5, o24.trans o5, re5, q5⟩⟩
  · have e : items.drop i = [] := List.drop_eq_nil_of_le (by omega)
    rw [e] at q2
    exact .inl ⟨W.stop G2 H2 i o2 (by omega), c.nx σ2 σd2 G2 H2 (o1.trans o2) re2 q2⟩
theorem psd_for {X : Cx} {tg iter : Expr} {body : List Stmt} {di : DI} {dg : DG} {db : DS} {pos : Pos} (hp : PassesOwn (model X.prog X.w) X.A X.env X.xe) (hc : X.calm = true) (hi : PId X tg iter di) (hg : PGd X tg dg) (hb : PSsd X body db)
    (hs : ∀ x, foldedSetIterable iter X.env x = pure x := by intro _; rfl) : PSd X (.For tg iter body [] pos) (dFor di dg db) :=
  let ⟨_, a1, b1⟩ := hi; let ⟨_, a2, b2⟩ := hg; let ⟨_, a3, b3⟩ := hb; ⟨_, ps_for hp hc a1 a2 a3 hs, abs_for b1 b2 b3⟩
/-! ### while -/
def dWhile (dt : DT) (db : DS) : DS := fun Dd σ G => ∃ W : Nat → Sd → Gp → Prop, (∃ m, W m σ G) ∧ ∀ m σ G, W m σ G →
  dt σ G fun b G1 => if b = true then db { Dd with nx := fun σ' G' => ∃ m', m' < m ∧ W m' σ' G', ct := fun σ' G' => ∃ m', m' < m ∧ W m' σ' G', bk := Dd.nx } σ G1 else Dd.nx σ G1
theorem psd_while {X : Cx} {c : Expr} {body : List Stmt} {dt : DT} {db : DS} {pos : Pos} (hp : PassesOwn (model X.prog X.w) X.A X.env X.xe) (hc : PDt X c dt) (hb : PSsd X body db) : PSd X (.While c body [] pos) (dWhile dt db) := by
  obtain ⟨_, a1, b1⟩ := hc
  obtain ⟨_, a2, b2⟩ := hb
  refine ⟨_, ps_while hp a1 a2, fun G H σ σd Dd D gd re h c => ?_⟩
  obtain ⟨W, ⟨m0, w0⟩, turn⟩ := h
  refine ⟨fun m σ' H' => ∃ σd' G', Go X.K G H G' H' ∧ RE X.K H' σ' σd' ∧ W m σd' G', ⟨m0, σd, G, .refl gd, re, w0⟩, ?_⟩
  rintro m σ1 H1 ⟨σd1, G1, o1, re1, w1⟩
  refine b1 G1 H1 σ1 σd1 _ _ o1.gd re1 (turn m σd1 G1 w1) fun b G2 H2 o2 q2 => ?_
  have o12 := o1.trans o2
  cases b with
  | true =>
    rw [if_pos rfl] at q2 ⊢
    refine ⟨fun σ' H' => ∃ m', m' < m ∧ ∃ σd' G', Go X.K G H G' H' ∧ RE X.K H' σ' σd' ∧ W m' σd' G', fun σ' H' p => p, ?_⟩
    exact b2 G2 H2 σ1 σd1 _ _ o2.gd (re1.sb (o2.sb o1.gd)) q2 ⟨fun σ5 σd5 G5 H5 o5 re5 ⟨m', l, q5⟩ => ⟨m', l, σd5, G5, o12.trans o5, re5, q5⟩, fun v d G5 H5 o5 r5 q5 => c.rt v d G5 H5 (o12.trans o5) r5 q5,
      fun σ5 σd5 G5 H5 o5 re5 q5 => c.nx _ _ _ _ (o12.trans o5) re5 q5, fun σ5 σd5 G5 H5 o5 re5 ⟨m', l, q5⟩ => ⟨m', l, σd5, G5, o12.trans o5, re5, q5⟩⟩
  | false =>
    rw [if_neg Bool.false_ne_true] at q2 ⊢
    exact c.nx _ _ _ _ o12 (re1.sb (o2.sb o1.gd)) q2

/-! ### comprehensions -/
def lcGo (dg : DG) (dt : DT) (de : DE) (vs : List Nat) (σ : Sd) : List D → Gp → KDs → Prop
  | [], G, Q => Q [] G
  | x :: r, G, Q => dg x (wipeD σ vs) G fun σ2 G2 => dt σ2 G2 fun b G3 => if b = true then de σ2 G3 fun y G4 => lcGo dg dt de vs σ r G4 fun ys G5 => Q (y :: ys) G5 else lcGo dg dt de vs σ r G3 Q
@[simp] def dLc (di : DI) (dg : DG) (dt : DT) (de : DE) (vs : List Nat) : DA := fun σ G Q => di σ G fun items G1 => lcGo dg dt de vs σ items G1 Q
@[simp] def dYes : DT := fun _ G Q => Q true G
/-- a target that stores into these slots alone -/
def GW (vs : List Nat) (g : TG) : Prop := ∀ v σ H Q, g v σ H Q → g v σ H fun σ' H' => Q σ' H' ∧ wipe σ' vs = wipe σ vs
def GWs (vs : List Nat) (g : TGs) : Prop := ∀ v σ H Q, g v σ H Q → g v σ H fun σ' H' => Q σ' H' ∧ wipe σ' vs = wipe σ vs
theorem wipe_get (σ : L2.St) : ∀ (vs : List Nat) (j : Nat), (wipe σ vs)[j]? = if j ∈ vs ∧ j < σ.length then some none else σ[j]?
  | [], j => by simp [wipe]
  | v :: vs, j => by
    unfold wipe
    by_cases hj : j = v
    · subst hj
      by_cases hl : j < σ.length
      · rw [List.getElem?_set_self (by rw [wipe_length]; exact hl), if_pos ⟨List.mem_cons_self, hl⟩]
      · rw [if_neg (fun z => hl z.2), List.getElem?_eq_none (by rw [List.length_set, wipe_length]; omega), List.getElem?_eq_none (by omega)]
    · rw [List.getElem?_set_ne (Ne.symm hj), wipe_get σ vs j]
      simp only [List.mem_cons, hj, false_or]
theorem wipe_set (σ : L2.St) (vs : List Nat) (i : Nat) (x : Option V) (h : i ∈ vs) : wipe (σ.set i x) vs = wipe σ vs := by
  apply List.ext_getElem?
  intro j
  rw [wipe_get, wipe_get, List.length_set]
  split
  · rfl
  · rename_i n
    by_cases hj : i = j
    · subst hj
      have hl : ¬ i < σ.length := fun z => n ⟨h, z⟩
      rw [List.getElem?_eq_none (by rw [List.length_set]; omega), List.getElem?_eq_none (by omega)]
    · rw [List.getElem?_set_ne hj]
theorem wipe_wipe (σ : L2.St) (vs : List Nat) : wipe (wipe σ vs) vs = wipe σ vs := by
  apply List.ext_getElem?
  intro j
  rw [wipe_get, wipe_length, wipe_get]
  split <;> rfl
theorem gw_name {vs : List Nat} {i : Nat} (h : i ∈ vs) : GW vs (gName i) := fun v σ H Q q => ⟨q, wipe_set σ vs i _ h⟩
theorem gw_nil {vs : List Nat} : GWs vs gNil := fun v σ H Q ⟨e, q⟩ => ⟨e, q, rfl⟩
def MonG (g : TG) : Prop := ∀ v σ H (Q Q' : L2.St → Hp → Prop), (∀ σ' H', Q σ' H' → Q' σ' H') → g v σ H Q → g v σ H Q'
def MonGs (g : TGs) : Prop := ∀ v σ H (Q Q' : L2.St → Hp → Prop), (∀ σ' H', Q σ' H' → Q' σ' H') → g v σ H Q → g v σ H Q'
def PGw (X : Cx) (tg : Expr) (dg : DG) (vs : List Nat) : Prop := ∃ g, PG X tg g ∧ AbG X.K g dg ∧ GW vs g ∧ MonG g
def PGsw (X : Cx) (tg : List Expr) (dg : DGs) (vs : List Nat) : Prop := ∃ g, PGs X tg g ∧ AbGs X.K g dg ∧ GWs vs g ∧ MonGs g
section
variable {X : Cx} {pos : Pos} {vs : List Nat}
theorem pgw_name {i : Nat} {x : Str} (hv : i ∈ vs) (hN : X.N.Nodup) (hi : X.N[i]? = some x) (hx : Loc X.env.scope x) (hf : X.fn x = true ∨ X.env.scope.names.lookup x = some .local := by first | exact .inl rfl | exact .inr rfl | assumption) : PGw X (.Name x pos) (gdName i) vs :=
  ⟨_, pg_name hN hi hx hf, abg_name, gw_name hv, fun v σ H Q Q' k q => k _ _ q⟩
theorem pgsw_nil : PGsw X [] gdNil vs := ⟨_, pgs_nil, abg_nil, gw_nil, fun v σ H Q Q' k ⟨e, q⟩ => ⟨e, k _ _ q⟩⟩
theorem pgsw_cons {e : Expr} {es : List Expr} {t : DG} {u : DGs} (h1 : PGw X e t vs) (h2 : PGsw X es u vs) (hs : (assignEach (e :: es) X.env).map (·.2) = assign e X.env :: (assignEach es X.env).map (·.2) := by rfl) : PGsw X (e :: es) (gdCons t u) vs := by
  obtain ⟨g1, a1, b1, c1, m1⟩ := h1
  obtain ⟨g2, a2, b2, c2, m2⟩ := h2
  refine ⟨_, pgs_cons a1 a2 hs, abg_cons b1 b2, fun v σ H Q ⟨d, r, ev, q⟩ => ⟨d, r, ev, ?_⟩, fun v σ H Q Q' k ⟨d, r, ev, q⟩ => ⟨d, r, ev, m1 _ _ _ _ _ (fun σ' H' z => m2 _ _ _ _ _ k z) q⟩⟩
  refine m1 _ _ _ _ _ (fun σ' H' ⟨z, w⟩ => ?_) (c1 _ _ _ _ q)
  exact m2 _ _ _ _ _ (fun σ2 H2 ⟨z2, w2⟩ => ⟨z2, w2.trans w⟩) (c2 _ _ _ _ z)
theorem pgw_tup {es : List Expr} {k : Nat} {t : DGs} {n : Nat} (hc : X.calm = true) (h : PGsw X es t vs) (hn : (assignEach es X.env).length = n := by rfl) (hst : (assignEach es X.env).findIdx? (·.1) = none := by rfl) : PGw X (.Tuple es k pos) (gdTup n t) vs := by
  obtain ⟨g, a, b, c, m⟩ := h
  exact ⟨_, pg_tup hc a hn hst, abg_tup b, fun v σ H Q ⟨p, xs, ev, hq, hl, q⟩ => ⟨p, xs, ev, hq, hl, c _ _ _ _ q⟩, fun v σ H Q Q' k ⟨p, xs, ev, hq, hl, q⟩ => ⟨p, xs, ev, hq, hl, m _ _ _ _ _ k q⟩⟩
def PTsd (X : Cx) (ifs : List Expr) (dt : DT) : Prop := ∃ tt, PTs X ifs tt ∧ AbT X.K tt dt
theorem ptsd_nil : PTsd X [] dYes := ⟨_, pts_nil, fun G H σ σd Qd Q g re h k => k true G H (.refl g) h⟩
theorem ptsd_one {c : Expr} {dt : DT} (h : PDt X c dt) : PTsd X [c] dt := let ⟨_, a, b⟩ := h; ⟨_, pts_one a, b⟩
end
theorem sb_mut {K : PySem.W.Frag} {H : Hp} {p : Addr} {u o : HO} (h : H p = some u) (mu : Mut (some u)) : Sb K H (upd H p o) := by
  refine ⟨fun b xs q => ?_, fun b ob w q => ?_⟩
  · have hb : b ≠ p := fun z => by subst z; rw [h] at q; cases q; exact mu
    rw [upd_ne hb]; exact q
  · have hb : b ≠ p := fun z => by subst z; rw [h] at q; cases q; exact mu
    rw [upd_ne hb]; exact q
theorem Go.setN {K : PySem.W.Frag} {G G0 : Gp} {H H0 : Hp} {p : Addr} {u o : HO} (x : Go K G0 H0 G H) (n0 : H0 p = none) (n : G p = none) (h : H p = some u) (mu : Mut (some u)) : Go K G0 H0 G (upd H p o) := by
  refine ⟨fun a w e z => ?_, x.nw, fun a e => ?_, x.gd.sub (sb_mut h mu) fun a z => upd_ne fun e => z (by rw [e]; exact n)⟩
  · rw [upd_ne (ne_of_none e n0)]; exact x.fr a w e z
  · by_cases ha : a = p
    · rw [ha, upd_same] at e; cases e
    · rw [upd_ne ha] at e; exact x.th a e
theorem abl_lc {K : PySem.W.Frag} {wi : TI} {g : TG} {tt : TT} {te : TE} {vs : List Nat} {di : DI} {dg : DG} {dt : DT} {de : DE} (h1 : AbI K wi di) (h2 : AbG K g dg) (hw : GW vs g) (hm : MonG g) (h3 : AbT K tt dt) (h4 : AbE K te de) :
    AbL K (tLc wi g tt te vs) (dLc di dg dt de vs) := fun G H σ σd Qd Q gd re h k => by
  refine h1 G H σ σd _ _ gd re h fun J items G1 H1 o1 W q1 => fun L hL => ?_
  have re1 := re.sb (o1.sb gd)
  refine ⟨fun i m H' => m = items.length - i ∧ i ≤ items.length ∧ ∃ G' acc accd, Go K G1 H1 G' H' ∧ G' L = none ∧ H' L = some (.lst acc) ∧ RDs K H' acc accd ∧ acc.length ≤ i ∧ lcGo dg dt de vs σd (items.drop i) G' (fun ys G2 => Qd (accd ++ ys) G2),
    ⟨_, rfl, Nat.zero_le _, G1, [], [], .new o1.gd hL, o1.gd.none_of hL, upd_same, .nil, Nat.le_refl _, q1⟩, ?_⟩
  rintro i m H2 ⟨rfl, hi, G2, acc, accd, o2, n2, e2, ra, hz, q2⟩
  by_cases hlt : i < items.length
  · have hx : items[i]? = some items[i] := List.getElem?_eq_getElem hlt
    obtain ⟨g1, g2⟩ := W.go G2 H2 o2 i _ hx
    rw [drop_cons hx] at q2
    obtain ⟨Nx, hNx⟩ : ∃ Nx : Hp → Prop, Nx = fun H' => ∃ G' acc accd, Go K G1 H1 G' H' ∧ G' L = none ∧ H' L = some (.lst acc) ∧ RDs K H' acc accd ∧ acc.length ≤ i + 1 ∧ lcGo dg dt de vs σd (items.drop (i + 1)) G' (fun ys G2 => Qd (accd ++ ys) G2) := ⟨_, rfl⟩
    refine .inr ⟨g1, Nx, fun H' p => ⟨items.length - (i + 1), by omega, rfl, hlt, by rw [hNx] at p; exact p⟩, fun x H3 y => ?_⟩
    obtain ⟨o3, r3⟩ := g2 x H3 y
    have re3 : RE K H3 (wipe σ vs) (wipeD σd vs) := (re1.sb ((o2.trans o3).sb o1.gd)).wipe vs
    have base : g x (wipe σ vs) H3 (fun σ2 H2 => tt σ2 H2 fun b H3 => if b = true then te σ2 H3 fun y H4 => ∃ acc, H4 L = some (.lst acc) ∧ acc.length < sizeLine ∧ Nx (upd H4 L (.lst (acc ++ [y]))) else Nx H3) := by
      refine h2 G2 H3 (wipe σ vs) (wipeD σd vs) x _ _ _ o3.gd re3 r3 q2 fun σ4 σd4 G4 H4 o4 re4 q4 => ?_
      refine h3 G4 H4 σ4 σd4 _ _ o4.gd re4 q4 fun b G5 H5 o5 q5 => ?_
      have o35 := (o3.trans o4).trans o5
      have o25 := o2.trans o35
      cases b with
      | true =>
        rw [if_pos rfl] at q5 ⊢
        refine h4 G5 H5 σ4 σd4 _ _ o5.gd (re4.sb (o5.sb o4.gd)) q5 fun yv yd G6 H6 o6 r6 q6 => ?_
        have o36 := o35.trans o6
        have o26 := o25.trans o6
        have e6 : H6 L = some (.lst acc) := o36.fr L _ e2 n2
        have n6 : G6 L = none := o36.nw L (by rw [e2]; exact fun z => nomatch z) n2
        have s6 := sb_mut (K := K) (o := .lst (acc ++ [yv])) e6 trivial
        refine ⟨acc, e6, Nat.lt_of_le_of_lt hz (Nat.lt_of_lt_of_le hlt W.sz), ?_⟩
        rw [hNx]
        refine ⟨G6, acc ++ [yv], accd ++ [yd], o26.setN hL n6 e6 trivial, n6, upd_same, (((ra.sb (o36.sb o2.gd)).append (.cons r6 .nil)).sb s6), by rw [List.length_append]; exact Nat.succ_le_succ hz, ?_⟩
        have q7 : lcGo dg dt de vs σd (items.drop (i + 1)) G6 (fun ys G5 => Qd (accd ++ (yd :: ys)) G5) := q6
        have ef : (fun (ys : List D) (G5 : Gp) => Qd (accd ++ (yd :: ys)) G5) = fun ys G5 => Qd ((accd ++ [yd]) ++ ys) G5 := by
          funext ys G5
          rw [List.append_assoc]; rfl
        rw [ef] at q7
        exact q7
      | false =>
        rw [if_neg Bool.false_ne_true] at q5 ⊢
        rw [hNx]
        exact ⟨G5, acc, accd, o25, o35.nw L (by rw [e2]; exact fun z => nomatch z) n2, o35.fr L _ e2 n2, ra.sb (o35.sb o2.gd), Nat.le_succ_of_le hz, q5⟩
    exact hm _ _ _ _ _ (fun σ' H' ⟨a, b⟩ => ⟨b.trans (wipe_wipe σ vs), a⟩) (hw x (wipe σ vs) H3 _ base)
  · have e : items.drop i = [] := List.drop_eq_nil_of_le (by omega)
    rw [e] at q2
    exact .inl ⟨W.stop G2 H2 i o2 (by omega), k L acc accd G2 H2 (o1.trans o2) n2 (o1.th L hL) e2 ra (by simpa [lcGo] using q2)⟩
/-! the same reading in every context of a family -/
section
variable {ι : Type} {X : ι → Cx} {K : PySem.W.Frag}
theorem unifE {e : Expr} {de : DE} (hK : ∀ j, (X j).K = K) (h : ∀ j, PD (X j) e de) : ∃ te, (∀ j, PE (X j) e te) ∧ AbE K te de := by
  have h' : ∀ j, ∃ te, PE (X j) e te ∧ AbE K te de := fun j => by
    obtain ⟨te, a, b⟩ := h j
    rw [hK j] at b
    exact ⟨te, a, b⟩
  refine ⟨fun σ H Q => ∀ j, Classical.choose (h' j) σ H Q, fun j => ⟨fun pins s σ H Q I q => (Classical.choose_spec (h' j)).1.run pins s σ H Q I (q j)⟩, fun G H σ σd Qd Q g re q k j => (Classical.choose_spec (h' j)).2 G H σ σd Qd Q g re q k⟩
theorem unifT {ifs : List Expr} {dt : DT} (hK : ∀ j, (X j).K = K) (h : ∀ j, PTsd (X j) ifs dt) : ∃ tt, (∀ j, PTs (X j) ifs tt) ∧ AbT K tt dt := by
  have h' : ∀ j, ∃ tt, PTs (X j) ifs tt ∧ AbT K tt dt := fun j => by
    obtain ⟨te, a, b⟩ := h j
    rw [hK j] at b
    exact ⟨te, a, b⟩
  refine ⟨fun σ H Q => ∀ j, Classical.choose (h' j) σ H Q, fun j => ⟨fun pins s σ H Q I q => (Classical.choose_spec (h' j)).1.run pins s σ H Q I (q j)⟩, fun G H σ σd Qd Q g re q k j => (Classical.choose_spec (h' j)).2 G H σ σd Qd Q g re q k⟩
theorem unifG {tg : Expr} {dg : DG} {vs : List Nat} (hK : ∀ j, (X j).K = K) (h : ∀ j, PGw (X j) tg dg vs) : ∃ g, (∀ j, PG (X j) tg g) ∧ AbG K g dg ∧ GW vs g ∧ MonG g := by
  have h' : ∀ j, ∃ g, PG (X j) tg g ∧ AbG K g dg ∧ GW vs g ∧ MonG g := fun j => by
    obtain ⟨te, a, b, c⟩ := h j
    rw [hK j] at b
    exact ⟨te, a, b, c⟩
  refine ⟨fun v σ H Q => ∀ j, Classical.choose (h' j) v σ H Q, fun j => ⟨fun pins s σ H v u Q I r q => (Classical.choose_spec (h' j)).1.run pins s σ H v u Q I r (q j)⟩, fun G H σ σd v d Qd Q g re r q k j => (Classical.choose_spec (h' j)).2.1 G H σ σd v d Qd Q g re r q k,
    fun v σ H Q q j => (Classical.choose_spec (h' j)).2.2.1 v σ H Q (q j), fun v σ H Q Q' k q j => (Classical.choose_spec (h' j)).2.2.2 v σ H Q Q' k (q j)⟩
end
section
variable {X : Cx}
abbrev Blk := Shared × Hp × Addr × List (Str × Addr) × List Addr
abbrev blkX (X : Cx) (scope : Scope) (j : Blk) : Cx := X.blk j.1 j.2.1 scope (compEnvC scope j.2.2.2.1 j.2.2.1 X.env) j.2.2.2.2
theorem pl_lc {elt tg iter : Expr} {ifs : List Expr} {scope : Scope} {own : List (Str × Nat)} {pos : Pos} {di : DI} {dg : DG} {dt : DT} {de : DE} (hc : X.calm = true) (hN : X.N.Nodup) (hi : PId X tg iter di) (ok : BlkOk X.N X.env.scope scope own)
    (hg : ∀ j : Blk, PGw (blkX X scope j) tg dg (own.map (·.2))) (ht : ∀ j : Blk, PTsd (blkX X scope j) ifs dt) (he : ∀ j : Blk, PD (blkX X scope j) elt de) (hs : ∀ x, foldedSetIterable iter X.env x = pure x := by intro _; rfl) :
    PDl X (.ListComp elt [⟨tg, iter, ifs, 0⟩] scope pos) (dLc di dg dt de (own.map (·.2))) := by
  obtain ⟨wi, a0, b0⟩ := hi
  obtain ⟨g, a1, b1, c1, m1⟩ := unifG (X := blkX X scope) (K := X.K) (fun _ => rfl) hg
  obtain ⟨tt, a2, b2⟩ := unifT (X := blkX X scope) (K := X.K) (fun _ => rfl) ht
  obtain ⟨te, a3, b3⟩ := unifE (X := blkX X scope) (K := X.K) (fun _ => rfl) he
  exact ⟨_, pe_lc hc hN a0 ok (fun s H C cl fp => a1 (s, H, C, cl, fp)) (fun s H C cl fp => a2 (s, H, C, cl, fp)) (fun s H C cl fp => a3 (s, H, C, cl, fp)) hs, abl_lc b0 b1 c1 m1 b2 b3⟩
/-- y = [..] -/
def dSetLc (dl : DA) (i : Nat) (live : Bool) : DS := fun Dd σ G => dl σ G fun ds G1 => if live = true then ∀ p, G1 p = none → Dd.nx (σ.set i (some (.ref p))) (updG G1 p (.lst ds)) else Dd.nx (σ.set i (some (.lst ds))) G1
/-- behind a statement something is locked -/
theorem ps_lkv {st : Stmt} {t : TS} (h : PS X st t) : PS X st (fun D σ H => t { nx := fun σ' H1 => D.nx σ' H1 ∨ ∃ a u, H1 a = some u ∧ Mut (some u) ∧ ∀ od, D.nx σ' (upd H1 a (.frz od u)), rt := D.rt, bk := D.bk, ct := D.ct } σ H) := by
  refine ⟨fun pins s σ H D I q => ?_⟩
  refine thn (h.run pins s σ H _ I q) fun f s1 r => ?_
  cases f with
  | next =>
    obtain ⟨σ', H', I', q | ⟨a, u, hu, mu, q⟩⟩ := r
    · exact ⟨σ', H', I', q⟩
    · obtain ⟨od, I2⟩ := I'.lock hu mu
      exact ⟨σ', _, I2, q od⟩
  | ret v => exact r
  | brk => exact r
  | cont => exact r
@[simp] def dSetF (dl : DA) (i : Nat) : DS := fun Dd σ G => dl σ G fun ds G1 => Dd.nx (σ.set i (some (.lst ds))) G1
@[simp] def dSetN (dl : DA) (i : Nat) : DS := fun Dd σ G => dl σ G fun ds G1 => ∀ p, G1 p = none → Dd.nx (σ.set i (some (.ref p))) (updG G1 p (.lst ds))
section
variable {i : Nat} {y : Str} {py : Pos} {elt tg iter : Expr} {ifs : List Expr} {scope : Scope} {own : List (Str × Nat)} {pos spos : Pos} {di : DI} {dg : DG} {dt : DT} {de : DE}
theorem psd_lcF (hc : X.calm = true) (hN : X.N.Nodup) (hy : X.N[i]? = some y) (hyl : X.env.scope.names.lookup y = some .local)
    (hsw : swapsWith (.ListComp elt [⟨tg, iter, ifs, 0⟩] scope pos) (some (.Name y py)) spos.line X.env = pure true) (hi : PId X tg iter di) (ok : BlkOk X.N X.env.scope scope own)
    (hg : ∀ j : Blk, PGw (blkX X scope j) tg dg (own.map (·.2))) (ht : ∀ j : Blk, PTsd (blkX X scope j) ifs dt) (he : ∀ j : Blk, PD (blkX X scope j) elt de) (hs : ∀ x, foldedSetIterable iter X.env x = pure x := by intro _; rfl) :
    PSd X (.Assign [.Name y py] (.ListComp elt [⟨tg, iter, ifs, 0⟩] scope pos) spos) (dSetF (dLc di dg dt de (own.map (·.2))) i) := by
  obtain ⟨wi, a0, b0⟩ := hi
  obtain ⟨g, a1, b1, c1, m1⟩ := unifG (X := blkX X scope) (K := X.K) (fun _ => rfl) hg
  obtain ⟨tt, a2, b2⟩ := unifT (X := blkX X scope) (K := X.K) (fun _ => rfl) ht
  obtain ⟨te, a3, b3⟩ := unifE (X := blkX X scope) (K := X.K) (fun _ => rfl) he
  refine ⟨_, ps_lkv (ps_setLc hc hN hy hyl hsw a0 ok (fun s H C cl fp => a1 (s, H, C, cl, fp)) (fun s H C cl fp => a2 (s, H, C, cl, fp)) (fun s H C cl fp => a3 (s, H, C, cl, fp)) hs), fun G H σ σd Dd D g re h c => ?_⟩
  refine abl_lc b0 b1 c1 m1 b2 b3 G H σ σd _ _ g re h fun p vs ds G1 H1 o n n0 hp r q => .inr ⟨p, _, hp, trivial, fun od => ?_⟩
  have o2 := o.lockN (od := od) n0 n hp trivial
  exact c.nx _ _ _ _ o2 ((re.sb (o2.sb g)).set (.lst (.inl ⟨od, upd_same⟩) (r.sb (sb_lock o.gd hp trivial))) i) q
theorem psd_lcN (hc : X.calm = true) (hN : X.N.Nodup) (hy : X.N[i]? = some y) (hyl : X.env.scope.names.lookup y = some .local)
    (hsw : swapsWith (.ListComp elt [⟨tg, iter, ifs, 0⟩] scope pos) (some (.Name y py)) spos.line X.env = pure true) (hi : PId X tg iter di) (ok : BlkOk X.N X.env.scope scope own)
    (hg : ∀ j : Blk, PGw (blkX X scope j) tg dg (own.map (·.2))) (ht : ∀ j : Blk, PTsd (blkX X scope j) ifs dt) (he : ∀ j : Blk, PD (blkX X scope j) elt de) (hs : ∀ x, foldedSetIterable iter X.env x = pure x := by intro _; rfl) :
    PSd X (.Assign [.Name y py] (.ListComp elt [⟨tg, iter, ifs, 0⟩] scope pos) spos) (dSetN (dLc di dg dt de (own.map (·.2))) i) := by
  obtain ⟨wi, a0, b0⟩ := hi
  obtain ⟨g, a1, b1, c1, m1⟩ := unifG (X := blkX X scope) (K := X.K) (fun _ => rfl) hg
  obtain ⟨tt, a2, b2⟩ := unifT (X := blkX X scope) (K := X.K) (fun _ => rfl) ht
  obtain ⟨te, a3, b3⟩ := unifE (X := blkX X scope) (K := X.K) (fun _ => rfl) he
  refine ⟨_, ps_setLc hc hN hy hyl hsw a0 ok (fun s H C cl fp => a1 (s, H, C, cl, fp)) (fun s H C cl fp => a2 (s, H, C, cl, fp)) (fun s H C cl fp => a3 (s, H, C, cl, fp)) hs, fun G H σ σd Dd D g re h c => ?_⟩
  refine abl_lc b0 b1 c1 m1 b2 b3 G H σ σd _ _ g re h fun p vs ds G1 H1 o n n0 hp r q => ?_
  exact c.nx _ _ _ _ (o.tell (m := .lst ds) n0 ⟨vs, hp, r⟩) ((re.sb (o.sb g)).set (.ref p) i) (q p n)
end
end
end Dl

end
section
set_option maxHeartbeats 4000000
namespace Dl
open PySem PySem.Spec PyProof.Rows L2 RZ LiI

theorem Go.writeL {K : PySem.W.Frag} {G : Gp} {H : Hp} {a : Addr} {m : MO} {vs : List V} {ds : List D} (g : Gd K G H) (e : G a = some m) (r : RDs K (upd H a (.lst vs)) vs ds) : Go K G H (updG G a (.lst ds)) (upd H a (.lst vs)) := Go.write (m' := .lst ds) g e ⟨vs, upd_same, r⟩
theorem Go.writeK {K : PySem.W.Frag} {G : Gp} {H : Hp} {a : Addr} {m : MO} {vs : List (Key × V)} {ds : List (Key × D)} (g : Gd K G H) (e : G a = some m) (r : RDk K (upd H a (.dK vs)) vs ds) : Go K G H (updG G a (.dic ds)) (upd H a (.dK vs)) := Go.write (m' := .dic ds) g e ⟨vs, upd_same, r⟩
/-! ### iterables -/
theorem RDk.get {K : PySem.W.Frag} {H : Hp} : ∀ {vs : List (Key × V)} {ks : List (Key × D)} {i : Nat} {k : Key} {d : D}, RDk K H vs ks → ks[i]? = Option.some (k, d) → ∃ v, vs[i]? = Option.some (k, v) ∧ RD K H v d ∧ okK k
  | _, _, _, _, _, .nil, e => by simp at e
  | _, _, 0, _, _, .cons o r _, e => by
    simp at e
    obtain ⟨e1, e2⟩ := e
    subst e1 e2
    exact ⟨_, rfl, r, o⟩
  | _, _, i + 1, k, d, .cons _ _ t, e => by
    obtain ⟨u, h1, h2⟩ := RDk.get (i := i) (k := k) (d := d) t (by simpa using e)
    exact ⟨u, by simpa using h1, h2⟩
section
variable {K : PySem.W.Frag} {G1 : Gp} {H1 : Hp} {a : Addr} {xs : List V} {ds : List D}
theorem wk_list (g : Gd K G1 H1) (h : FzL K H1 a xs) (r : RDs K H1 xs ds) (hz : xs.length ≤ sizeLine) : Wk K (Itl K a) ds G1 H1 where
  go := fun G H o i d e => by
    have s := o.sb g
    obtain ⟨v, ev, rv⟩ := (r.sb s).get e
    refine ⟨⟨xs, v, (s.l h).seq, ev⟩, fun x H' ⟨e1, e2⟩ => ?_⟩
    subst e1
    have e3 := e2 xs (s.l h).seq
    rw [ev] at e3
    cases e3
    exact ⟨.refl o.gd, rv⟩
  stop := fun G H i o hi => ⟨xs, ((o.sb g).l h).seq, by rw [r.length]; exact hi⟩
  sz := by rw [← r.length]; exact hz
theorem wk_tup (g : Gd K G1 H1) (h : SqT K H1 a xs) (r : RDs K H1 xs ds) (hz : xs.length ≤ sizeLine) : Wk K (Itt K a) ds G1 H1 where
  go := fun G H o i d e => by
    have s := o.sb g
    obtain ⟨v, ev, rv⟩ := (r.sb s).get e
    refine ⟨⟨xs, v, s.t h, ev⟩, fun x H' ⟨e1, e2⟩ => ?_⟩
    subst e1
    have e3 := e2 xs (s.t h)
    rw [ev] at e3
    cases e3
    exact ⟨.refl o.gd, rv⟩
  stop := fun G H i o hi => ⟨xs, (o.sb g).t h, by rw [r.length]; exact hi⟩
  sz := by rw [← r.length]; exact hz
def signsD (s : Str) : List D := s.cps.toList.map fun c => .str ⟨#[c]⟩
theorem okS_sign {s : Str} (h : okS s) {c : Nat} (hc : c ∈ s.cps.toList) : okS ⟨#[c]⟩ := by
  have h2 : s.cps.all (· < 0x110000) = true := h.2
  rw [← Array.all_toList, List.all_eq_true] at h2
  refine ⟨by show 1 ≤ sizeLine; decide, ?_⟩
  show (#[c] : Array Nat).all (· < 0x110000) = true
  rw [← Array.all_toList]
  simpa using h2 c hc
theorem wk_str {s : Str} (g : Gd K G1 H1) (h : okS s) : Wk K (Its s) (signsD s) G1 H1 where
  go := fun G H o i d e => by
    unfold signsD at e
    rw [List.getElem?_map] at e
    cases q : s.cps.toList[i]? with
    | none => rw [q] at e; cases e
    | some c =>
      rw [q] at e
      cases e
      have hl : i < s.cps.toList.length := (List.getElem?_eq_some_iff.mp q).1
      refine ⟨by show i < s.cps.size; simpa using hl, fun x H' ⟨e1, c', e2, e3⟩ => ?_⟩
      subst e1 e3
      have e4 : s.cps.toList[i]? = some c' := by simpa using e2
      rw [q] at e4
      cases e4
      exact ⟨.refl o.gd, .str (okS_sign h (List.mem_of_getElem? q))⟩
  stop := fun G H i o hi => by
    show s.cps.size ≤ i
    unfold signsD at hi
    simpa using hi
  sz := by
    unfold signsD
    rw [List.length_map, Array.length_toList]
    exact h.1
theorem wk_keys {o : Obj} {kvs : List (Key × V)} {ks : List (Key × D)} (g : Gd K G1 H1) (h : H1 a = some (.frz o (.dK kvs))) (r : RDk K H1 kvs ks) (hz : kvs.length ≤ sizeLine) : Wk K (Itk a o kvs) (ks.map fun p => keyV p.1) G1 H1 where
  go := fun G H x i d e => by
    rw [List.getElem?_map] at e
    cases q : ks[i]? with
    | none => rw [q] at e; cases e
    | some p =>
      obtain ⟨k, dd⟩ := p
      rw [q] at e
      cases e
      obtain ⟨v, ev, _, ok⟩ := r.get q
      refine ⟨⟨x.fr a _ h (g.frz h), (List.getElem?_eq_some_iff.mp ev).1⟩, fun y H' ⟨e1, k', v', e2, e3⟩ => ?_⟩
      subst e1 e3
      rw [ev] at e2
      cases e2
      exact ⟨.refl x.gd, rd_key ok⟩
  stop := fun G H i x hi => ⟨x.fr a _ h (g.frz h), by rw [r.length]; simpa using hi⟩
  sz := by rw [List.length_map, ← r.length]; exact hz
theorem wk_vals {o : Obj} {kvs : List (Key × V)} {ks : List (Key × D)} (g : Gd K G1 H1) (h : H1 a = some (.frz o (.dK kvs))) (r : RDk K H1 kvs ks) (hz : kvs.length ≤ sizeLine) : Wk K (Itd a o kvs) (ks.map fun p => p.2) G1 H1 where
  go := fun G H x i d e => by
    rw [List.getElem?_map] at e
    cases q : ks[i]? with
    | none => rw [q] at e; cases e
    | some p =>
      obtain ⟨k, dd⟩ := p
      rw [q] at e
      cases e
      obtain ⟨v, ev, rv, ok⟩ := r.get q
      refine ⟨⟨x.fr a _ h (g.frz h), (List.getElem?_eq_some_iff.mp ev).1⟩, fun y H' ⟨e1, k', e2⟩ => ?_⟩
      subst e1
      rw [ev] at e2
      cases e2
      exact ⟨.refl x.gd, rv.sb (x.sb g)⟩
  stop := fun G H i x hi => ⟨x.fr a _ h (g.frz h), by rw [r.length]; simpa using hi⟩
  sz := by rw [List.length_map, ← r.length]; exact hz
theorem wk_items {o : Obj} {kvs : List (Key × V)} {ks : List (Key × D)} (g : Gd K G1 H1) (h : H1 a = some (.frz o (.dK kvs))) (r : RDk K H1 kvs ks) (hz : kvs.length ≤ sizeLine) : Wk K (Iti a o kvs) (ks.map fun p => .tup [keyV p.1, p.2]) G1 H1 where
  go := fun G H x i d e => by
    rw [List.getElem?_map] at e
    cases q : ks[i]? with
    | none => rw [q] at e; cases e
    | some p =>
      obtain ⟨k, dd⟩ := p
      rw [q] at e
      cases e
      obtain ⟨v, ev, rv, ok⟩ := r.get q
      refine ⟨⟨x.fr a _ h (g.frz h), (List.getElem?_eq_some_iff.mp ev).1⟩, fun y H' ⟨T, k', v', e2, e3, hT, e4⟩ => ?_⟩
      subst e3 e4
      rw [ev] at e2
      cases e2
      have s := sb_new (K := K) (o := .tup [kV k, v]) hT
      exact ⟨.new x.gd hT, .tup (.of upd_same) (.cons (rd_key ok) (.cons ((rv.sb (x.sb g)).sb s) .nil))⟩
  stop := fun G H i x hi => ⟨x.fr a _ h (g.frz h), by rw [r.length]; simpa using hi⟩
  sz := by rw [List.length_map, ← r.length]; exact hz
def rangeD (lo : Int) (n : Nat) : List D := (List.range n).map fun (i : Nat) => .int (lo + i)
theorem wk_range (g : Gd K G1 H1) (lo : Int) (n : Nat) (hz : n ≤ sizeLine) : Wk K (Itr lo n) (rangeD lo n) G1 H1 where
  go := fun G H o i d e => by
    unfold rangeD at e
    rw [List.getElem?_map] at e
    have hl : i < n := by
      cases q : (List.range n)[i]? with
      | none => rw [q] at e; cases e
      | some z => simpa using (List.getElem?_eq_some_iff.mp q).1
    rw [List.getElem?_range hl] at e
    cases e
    refine ⟨hl, fun x H' ⟨e1, e2⟩ => ?_⟩
    subst e1 e2
    exact ⟨.refl o.gd, .int _⟩
  stop := fun G H i o hi => by
    show n ≤ i
    unfold rangeD at hi
    simpa using hi
  sz := by unfold rangeD; simpa using hz
def enumD (ds : List D) : List D := ds.mapIdx fun i d => .tup [.int (i : Nat), d]
theorem wk_enum (g : Gd K G1 H1) (h : FzL K H1 a xs) (r : RDs K H1 xs ds) (hz : xs.length ≤ sizeLine) : Wk K (Ite K a) (enumD ds) G1 H1 where
  go := fun G H o i d e => by
    unfold enumD at e
    rw [List.getElem?_mapIdx] at e
    cases q : ds[i]? with
    | none => rw [q] at e; cases e
    | some z =>
      rw [q] at e
      cases e
      have s := o.sb g
      obtain ⟨v, ev, rv⟩ := (r.sb s).get q
      refine ⟨⟨xs, v, (s.l h).seq, ev⟩, fun x H' ⟨T, y, e1, hT, e2, e3⟩ => ?_⟩
      subst e1 e2
      have e4 := e3 xs (s.l h).seq
      rw [ev] at e4
      cases e4
      exact ⟨.new o.gd hT, .tup (.of upd_same) (.cons (.int _) (.cons (rv.sb (sb_new hT)) .nil))⟩
  stop := fun G H i o hi => ⟨xs, ((o.sb g).l h).seq, by unfold enumD at hi; rw [r.length]; simpa using hi⟩
  sz := by unfold enumD; rw [List.length_mapIdx, ← r.length]; exact hz
def zipD (ds es : List D) : List D := List.zipWith (fun d e => .tup [d, e]) ds es
theorem zip_get {ds es : List D} {i : Nat} {d : D} (h : (zipD ds es)[i]? = some d) : ∃ x y, ds[i]? = some x ∧ es[i]? = some y ∧ d = .tup [x, y] := by
  unfold zipD at h
  rw [List.getElem?_zipWith] at h
  cases e1 : ds[i]? with
  | none => rw [e1] at h; cases h
  | some x =>
    cases e2 : es[i]? with
    | none => rw [e1, e2] at h; cases h
    | some y =>
      rw [e1, e2] at h
      cases h
      exact ⟨x, y, rfl, rfl, rfl⟩
theorem wk_zipL {b : Addr} {ys : List V} {es : List D} (g : Gd K G1 H1) (h : FzL K H1 a xs) (h' : FzL K H1 b ys) (r : RDs K H1 xs ds) (r' : RDs K H1 ys es) (hz : xs.length ≤ sizeLine) : Wk K (Itz K a b) (zipD ds es) G1 H1 where
  go := fun G H o i d e => by
    obtain ⟨x, y, ex, ey, rfl⟩ := zip_get e
    have s := o.sb g
    obtain ⟨v, ev, rv⟩ := (r.sb s).get ex
    obtain ⟨w, ew, rw'⟩ := (r'.sb s).get ey
    refine ⟨⟨xs, ys, v, w, (s.l h).seq, (s.l h').seq, ev, ew⟩, fun z H' ⟨T, p, q, e1, hT, e2, e3, e4⟩ => ?_⟩
    subst e1 e2
    have f1 := e3 xs (s.l h).seq
    have f2 := e4 ys (s.l h').seq
    rw [ev] at f1
    rw [ew] at f2
    cases f1
    cases f2
    exact ⟨.new o.gd hT, .tup (.of upd_same) (.cons (rv.sb (sb_new hT)) (.cons (rw'.sb (sb_new hT)) .nil))⟩
  stop := fun G H i o hi => by
    refine ⟨xs, ys, ((o.sb g).l h).seq, ((o.sb g).l h').seq, ?_⟩
    unfold zipD at hi
    rw [List.length_zipWith] at hi
    rw [r.length, r'.length]
    omega
  sz := by
    unfold zipD
    rw [List.length_zipWith, ← r.length]
    omega
theorem wk_zipT {b : Addr} {ys : List V} {es : List D} (g : Gd K G1 H1) (h : SqT K H1 a xs) (h' : SqT K H1 b ys) (r : RDs K H1 xs ds) (r' : RDs K H1 ys es) (hz : xs.length ≤ sizeLine) : Wk K (ItzT K a b) (zipD ds es) G1 H1 where
  go := fun G H o i d e => by
    obtain ⟨x, y, ex, ey, rfl⟩ := zip_get e
    have s := o.sb g
    obtain ⟨v, ev, rv⟩ := (r.sb s).get ex
    obtain ⟨w, ew, rw'⟩ := (r'.sb s).get ey
    refine ⟨⟨xs, ys, v, w, s.t h, s.t h', ev, ew⟩, fun z H' ⟨T, p, q, e1, hT, e2, e3, e4⟩ => ?_⟩
    subst e1 e2
    have f1 := e3 xs (s.t h)
    have f2 := e4 ys (s.t h')
    rw [ev] at f1
    rw [ew] at f2
    cases f1
    cases f2
    exact ⟨.new o.gd hT, .tup (.of upd_same) (.cons (rv.sb (sb_new hT)) (.cons (rw'.sb (sb_new hT)) .nil))⟩
  stop := fun G H i o hi => by
    refine ⟨xs, ys, (o.sb g).t h, (o.sb g).t h', ?_⟩
    unfold zipD at hi
    rw [List.length_zipWith] at hi
    rw [r.length, r'.length]
    omega
  sz := by
    unfold zipD
    rw [List.length_zipWith, ← r.length]
    omega
end
/-- what is seen of sizes -/
def SzH (K : PySem.W.Frag) (H : Hp) : Prop := (∀ a xs, SqL K H a xs → xs.length ≤ sizeLine) ∧ (∀ a xs, SqT K H a xs → xs.length ≤ sizeLine) ∧ ∀ a kvs, Rd H a (.dK kvs) → kvs.length ≤ sizeLine
theorem szH_of {X : Cx} {pins : List (Addr × Obj)} {σ : L2.St} {H : Hp} {s : Shared} (I : Inv X pins σ H s) : SzH X.K H :=
  ⟨fun a xs h => let ⟨_, _, _, z⟩ := I.list h; z, fun a xs h => let ⟨_, _, _, z⟩ := I.tuple h; z, fun a kvs h => (dk_rd I.hok h).1⟩
theorem pi_sz {X : Cx} {tg iter : Expr} {wi : TI} (h : PI X tg iter wi) : PI X tg iter (fun σ H R => wi σ H fun J H1 => SzH X.K H1 → R J H1) := by
  refine ⟨fun pins s σ H R I q => ?_⟩
  refine thn (h.run pins s σ H _ I q) fun v s1 h1 => thn h1 fun itv s2 ⟨it, fp, tn, J, H', e, I2, T, t0, f, r⟩ => ⟨it, fp, tn, J, H', e, I2, T, t0, f, r (szH_of I2)⟩
def iAny (K : PySem.W.Frag) (te : TE) : TI := fun σ H R => te σ H fun v H1 =>
  (∃ a, v = .ref a ∧ (∃ xs, SqL K H1 a xs) ∧ R (Itl K a) H1) ∨ (∃ a, v = .ref a ∧ (∃ xs, SqT K H1 a xs) ∧ R (Itt K a) H1) ∨ (∃ x, v = .str x ∧ R (Its x) H1) ∨ ∃ d o kvs, v = .ref d ∧ H1 d = some (.frz o (.dK kvs)) ∧ R (Itk d o kvs) H1
theorem pi_any {X : Cx} {tg e : Expr} {te : TE} (he : PE X e te) : PI X tg e (iAny X.K te) := by
  refine ⟨fun pins s σ H R I h => ?_⟩
  refine thn (he.run pins s σ H _ I h) fun v s1 ⟨y, H1, I1, r1, q⟩ => ?_
  rcases q with ⟨a, e, ⟨xs, hq⟩, q⟩ | ⟨a, e, ⟨xs, hq⟩, q⟩ | ⟨x, e, q⟩ | ⟨d, o, kvs, e, hd, q⟩
  · subst e
    cases r1
    obtain ⟨its, rv, p, hz⟩ := I1.list hq
    refine wpAny_pyIter_list p.isList ?_
    refine ⟨s1.heap.objs.size, [s1.heap.objs.size], _, _, H1, rfl, I1.kept (t' := s1.toks) fun b o e => Heap.get?_push_of_some _ e, turn_list a _, ⟨_, Heap.get?_push_size _ rfl, rfl, rfl⟩, fun b hb => ?_, q⟩
    have e : b = s1.heap.objs.size := by simpa using hb
    subst e
    exact I1.fpOk (Nat.le_refl _) (I1.hok.fresh (Nat.le_refl _))
  · subst e
    cases r1
    obtain ⟨its, rv, p, hz⟩ := I1.tuple hq
    refine wpAny_pyIter_tuple (show s1.heap.IsTuple a its.toArray from p) ?_
    refine ⟨s1.heap.objs.size, [s1.heap.objs.size], _, _, H1, rfl, I1.kept (t' := s1.toks) fun b o e => Heap.get?_push_of_some _ e, turn_tuple a _, ⟨_, Heap.get?_push_size _ rfl, rfl, rfl⟩, fun b hb => ?_, q⟩
    have e : b = s1.heap.objs.size := by simpa using hb
    subst e
    exact I1.fpOk (Nat.le_refl _) (I1.hok.fresh (Nat.le_refl _))
  · subst e
    obtain ⟨t, rfl⟩ := r1
    cases ha : x.cps.all (· < 128)
    · exact wpAny_pyIter_wide ha (pi_one (tk := s1.toks) I1 _ (turn_str _ x t "str_iterator" (.inr rfl)) ⟨_, Heap.get?_push_size _ rfl, rfl, rfl⟩ q)
    · exact wpAny_pyIter_ascii ha (pi_one (tk := s1.toks) I1 _ (turn_str _ x t "str_ascii_iterator" (.inl rfl)) ⟨_, Heap.get?_push_size _ rfl, rfl, rfl⟩ q)
  · subst e
    cases r1
    obtain ⟨hs, hgd, hx, es, ep, vs, hdt, hsz, kv, hm⟩ := I1.frzK hd
    refine iter_keys hs hgd hx hdt (pi_one (tk := s1.toks) I1 _ (turn_keys _ hdt) ⟨_, Heap.get?_push_size _ rfl, rfl, ?_⟩ q)
    rw [hsz] <;> rfl
/-- over a value -/
@[simp] def dIt (de : DE) : DI := fun σ G Q => de σ G fun d G1 => match d with
  | .lst ds => Q ds G1
  | .tup ds => Q ds G1
  | .str s => Q (signsD s) G1
  | .dic ks => Q (ks.map fun p => keyV p.1) G1
  | _ => False
theorem pid_any {X : Cx} {tg e : Expr} {de : DE} (h : PD X e de) : PId X tg e (dIt de) := by
  obtain ⟨te, a, b⟩ := h
  refine ⟨_, pi_sz (pi_any a), fun G H σ σd Qd R g re hd k => ?_⟩
  refine b G H σ σd _ _ g re hd fun v d G1 H1 o r q => ?_
  cases d with
  | lst ds =>
    cases r with
    | lst hq rs => exact .inl ⟨_, rfl, ⟨_, hq.seq⟩, fun z => k _ _ _ _ o (wk_list o.gd hq rs (z.1 _ _ hq.seq)) q⟩
  | tup ds =>
    cases r with
    | tup hq rs => exact .inr (.inl ⟨_, rfl, ⟨_, hq⟩, fun z => k _ _ _ _ o (wk_tup o.gd hq rs (z.2.1 _ _ hq)) q⟩)
  | str s =>
    cases r with
    | str hs => exact .inr (.inr (.inl ⟨s, rfl, fun z => k _ _ _ _ o (wk_str o.gd hs) q⟩))
  | dic ks =>
    cases r with
    | dic hq rs => exact .inr (.inr (.inr ⟨_, _, _, rfl, hq, fun z => k _ _ _ _ o (wk_keys o.gd hq rs (z.2.2 _ _ (.inr ⟨_, hq⟩))) q⟩))
  | _ => exact q.elim
section
variable {X : Cx} {tg e : Expr} {apos cpos p pos tpos : Pos} {elts : List Expr} {kk : Nat} {de : DE} {da : DA}
@[simp] def dItems (de : DE) : DI := fun σ G Q => de σ G fun d G1 => match d with
  | .dic ks => Q (ks.map fun p => .tup [keyV p.1, p.2]) G1
  | _ => False
@[simp] def dValues (de : DE) : DI := fun σ G Q => de σ G fun d G1 => match d with
  | .dic ks => Q (ks.map fun p => p.2) G1
  | _ => False
theorem pid_items (h : PD X e de) (hbase : attributeBase e "items" X.env (eval e X.env) = eval e X.env := by rfl) (hline : (apos.endLine == cpos.line) = true := by rfl) : PId X (.Tuple elts kk tpos) (.Call (.Attribute e "items" apos) [] [] cpos) (dItems de) := by
  obtain ⟨te, a, b⟩ := h
  refine ⟨_, pi_sz (pi_items a hbase hline), fun G H σ σd Qd R g re hd k => ?_⟩
  refine b G H σ σd _ _ g re hd fun v d G1 H1 o r q => ?_
  cases d with
  | dic ks =>
    cases r with
    | dic hq rs => exact ⟨_, _, _, rfl, hq, fun z => k _ _ _ _ o (wk_items o.gd hq rs (z.2.2 _ _ (.inr ⟨_, hq⟩))) q⟩
  | _ => exact q.elim
theorem pid_values (h : PD X e de) (hbase : attributeBase e "values" X.env (eval e X.env) = eval e X.env := by rfl) (hline : (apos.endLine == cpos.line) = true := by rfl) : PId X tg (.Call (.Attribute e "values" apos) [] [] cpos) (dValues de) := by
  obtain ⟨te, a, b⟩ := h
  refine ⟨_, pi_sz (pi_values a hbase hline), fun G H σ σd Qd R g re hd k => ?_⟩
  refine b G H σ σd _ _ g re hd fun v d G1 H1 o r q => ?_
  cases d with
  | dic ks =>
    cases r with
    | dic hq rs => exact ⟨_, _, _, rfl, hq, fun z => k _ _ _ _ o (wk_vals o.gd hq rs (z.2.2 _ _ (.inr ⟨_, hq⟩))) q⟩
  | _ => exact q.elim
@[simp] def dRange1 (da : DA) : DI := fun σ G Q => da σ G fun ds G1 => match ds with
  | [.int n] => -100000 ≤ n ∧ n ≤ 100000 ∧ Q (rangeD 0 n.toNat) G1
  | _ => False
theorem pid_range1 {a : Expr} (hm : X.mg "range" = none) (ha : PDa X [a] da) (hg : Gl X "range" := by rfl) (hs : starEach [a] X.env = [(false, eval a X.env)] := by rfl) : PId X tg (.Call (.Name "range" p) [a] [] pos) (dRange1 da) := by
  obtain ⟨ta, a1, b1⟩ := ha
  refine ⟨_, pi_range1 hg hm a1 hs, fun G H σ σd Qd R g re hd k => ?_⟩
  refine b1 G H σ σd _ _ g re hd fun vs ds G1 H1 o r q => ?_
  split at q
  · rename_i n
    cases r with
    | cons r rt =>
      cases rt
      cases r
      exact ⟨n, rfl, by omega, by omega, k _ _ _ _ o (wk_range o.gd 0 n.toNat (by have := q.2.1; exact Nat.le_trans (by omega : n.toNat ≤ 100000) (by decide))) q.2.2⟩
  · exact q.elim
@[simp] def dRange2 (da : DA) : DI := fun σ G Q => da σ G fun ds G1 => match ds with
  | [.int i, .int n] => (-100000 ≤ i ∧ i ≤ 100000 ∧ -100000 ≤ n ∧ n ≤ 100000) ∧ Q (rangeD i (n - i).toNat) G1
  | _ => False
theorem pid_range2 {a b : Expr} (hm : X.mg "range" = none) (ha : PDa X [a, b] da) (hg : Gl X "range" := by rfl) (hs : starEach [a, b] X.env = [(false, eval a X.env), (false, eval b X.env)] := by rfl) (hs2 : starEach [b] X.env = [(false, eval b X.env)] := by rfl) : PId X tg (.Call (.Name "range" p) [a, b] [] pos) (dRange2 da) := by
  obtain ⟨ta, a1, b1⟩ := ha
  refine ⟨_, pi_range2 hg hm a1 hs hs2, fun G H σ σd Qd R g re hd k => ?_⟩
  refine b1 G H σ σd _ _ g re hd fun vs ds G1 H1 o r q => ?_
  split at q
  · rename_i i n
    cases r with
    | cons r rt =>
      cases rt with
      | cons r2 rt =>
        cases rt
        cases r
        cases r2
        obtain ⟨⟨q1, q2, q3, q4⟩, q⟩ := q
        exact ⟨i, n, rfl, ⟨by omega, by omega, by omega, by omega⟩, k _ _ _ _ o (wk_range o.gd i (n - i).toNat (Nat.le_trans (by omega : (n - i).toNat ≤ 200000) (by decide))) q⟩
  · exact q.elim
@[simp] def dEnum (da : DA) : DI := fun σ G Q => da σ G fun ds G1 => match ds with
  | [.lst es] => Q (enumD es) G1
  | _ => False
theorem pid_enum (hm : X.mg "enumerate" = none) (ha : PDa X [e] da) (hg : Gl X "enumerate" := by rfl) (hs : starEach [e] X.env = [(false, eval e X.env)] := by rfl) : PId X (.Tuple elts kk tpos) (.Call (.Name "enumerate" p) [e] [] pos) (dEnum da) := by
  obtain ⟨ta, a1, b1⟩ := ha
  refine ⟨_, pi_sz (pi_enum hg hm a1 hs), fun G H σ σd Qd R g re hd k => ?_⟩
  refine b1 G H σ σd _ _ g re hd fun vs ds G1 H1 o r q => ?_
  split at q
  · cases r with
    | cons r rt =>
      cases rt
      cases r with
      | lst hq rs => exact ⟨_, _, rfl, hq.seq, fun z => k _ _ _ _ o (wk_enum o.gd hq rs (z.1 _ _ hq.seq)) q⟩
  · exact q.elim
def dZip (da : DA) : DI := fun σ G Q => da σ G fun ds G1 => match ds with
  | [.lst xs, .lst ys] => Q (zipD xs ys) G1
  | [.tup xs, .tup ys] => Q (zipD xs ys) G1
  | _ => False
theorem pid_zip {e2 : Expr} (hm : X.mg "zip" = none) (ha : PDa X [e, e2] da) (hg : Gl X "zip" := by rfl) (hs : starEach [e, e2] X.env = (false, eval e X.env) :: starEach [e2] X.env := by rfl) (hpl : (backTo pos (starEach [e2] X.env)).any (·.1) = false := by rfl) :
    PId X (.Tuple elts kk tpos) (.Call (.Name "zip" p) [e, e2] [] pos) (dZip da) := by
  obtain ⟨ta, a1, b1⟩ := ha
  refine ⟨_, pi_sz (pi_zipA hg hm a1 hs hpl), fun G H σ σd Qd R g re hd k => ?_⟩
  refine b1 G H σ σd _ _ g re hd fun vs ds G1 H1 o r q => ?_
  split at q
  · cases r with
    | cons r rt =>
      cases rt with
      | cons r2 rt =>
        cases rt
        cases r with
        | lst hq rs =>
          cases r2 with
          | lst hq2 rs2 => exact ⟨_, _, _, _, rfl, .inl ⟨hq.seq, hq2.seq, fun z => k _ _ _ _ o (wk_zipL o.gd hq hq2 rs rs2 (z.1 _ _ hq.seq)) q⟩⟩
  · cases r with
    | cons r rt =>
      cases rt with
      | cons r2 rt =>
        cases rt
        cases r with
        | tup hq rs =>
          cases r2 with
          | tup hq2 rs2 => exact ⟨_, _, _, _, rfl, .inr ⟨hq, hq2, fun z => k _ _ _ _ o (wk_zipT o.gd hq hq2 rs rs2 (z.2.1 _ _ hq)) q⟩⟩
  · exact q.elim

/-! ### methods of lists and dicts -/
@[simp] def rAppD : D → List D → Gp → KD → Prop := fun x ds G Q => match ds with
  | [y] => ∃ a es, x = .ref a ∧ G a = some (.lst es) ∧ es.length < 100000 ∧ Q .non (updG G a (.lst (es ++ [y])))
  | _ => False
@[simp] def isLst (G : Gp) (x : D) : Prop := ∃ a es, x = .ref a ∧ G a = some (.lst es)
@[simp] def isDic (G : Gp) (x : D) : Prop := ∃ ks, asD G x = .dic ks
@[simp] def dMtL (rd : D → List D → Gp → KD → Prop) (do_ : DE) (da : DA) : DE := fun σ G Q => do_ σ G fun x G1 => isLst G1 x ∧ da σ G1 fun ds G2 => rd x ds G2 Q
theorem pd_append {o : Expr} {es : List Expr} {do_ : DE} (ho : PD X o do_) (ha : PDa X (e :: es) da) (hbase : attributeBase o "append" X.env (eval o X.env) = eval o X.env := by rfl)
    (hfew : ((backTo cpos (starEach (e :: es) X.env)).all (fun x => !x.1) && (backToKw cpos (keywordEach [] X.env)).all (fun x => x.1.isSome) && decide ((e :: es).length + ([] : List Keyword).length + (if ([] : List Keyword).isEmpty then 0 else 1) < 30)) = true := by rfl)
    (hline : (apos.endLine == cpos.line) = true := by rfl) (hs : starEach (e :: es) X.env = (false, eval e X.env) :: starEach es X.env := by rfl) (hplain : (backTo cpos (starEach es X.env)).any (·.1) = false := by rfl) :
    PD X (.Call (.Attribute o "append" apos) (e :: es) [] cpos) (dMtL rAppD do_ da) := by
  obtain ⟨to, a1, b1⟩ := ho
  obtain ⟨ta, a2, b2⟩ := ha
  refine ⟨_, pe_bm PySem.F.plainAttrs_list PySem.F.slot_list_append PySem.F.type_list_append mt_append a1 a2 hbase hfew hline hs hplain, fun G H σ σd Qd Q g re h k => ?_⟩
  refine b1 G H σ σd _ _ g re h fun v d G1 H1 o1 r1 ⟨⟨a, es0, ex, ea⟩, q1⟩ => ?_
  subst ex
  cases r1
  obtain ⟨vs0, hH, _⟩ := o1.gd a _ ea
  refine ⟨.inl ⟨rfl, vs0, .of hH⟩, b2 G1 H1 σ σd _ _ o1.gd (re.sb (o1.sb g)) q1 fun vs ds G2 H2 o2 r2 q2 => ?_⟩
  unfold rAppD at q2
  split at q2
  · obtain ⟨a', es, ex, ea2, hz, q⟩ := q2
    cases ex
    cases r2 with
    | cons r2 rt =>
      cases rt
      obtain ⟨ws, hW, rw'⟩ := o2.gd a _ ea2
      refine ⟨a, ws, _, rfl, rfl, hW, by rw [rw'.length]; exact Nat.lt_of_lt_of_le hz (by decide), ?_⟩
      exact k _ _ _ _ ((o1.trans o2).trans (.writeL o2.gd ea2 ((rw'.append (.cons r2 .nil)).sb (sb_write o2.gd ea2)))) .non q
  · exact q2.elim
@[simp] def rPopLD : D → List D → Gp → KD → Prop := fun x ds G Q => match ds with
  | [.int i] => ∃ a es k y, x = .ref a ∧ G a = some (.lst es) ∧ -(2 ^ 63) ≤ i ∧ i < 2 ^ 63 ∧ seqIndex? i es.length = some k ∧ es[k]? = some y ∧ Q y (updG G a (.lst (es.eraseIdx k)))
  | _ => False
theorem pd_popL {o : Expr} {es : List Expr} {do_ : DE} (ho : PD X o do_) (ha : PDa X (e :: es) da) (hbase : attributeBase o "pop" X.env (eval o X.env) = eval o X.env := by rfl)
    (hfew : ((backTo cpos (starEach (e :: es) X.env)).all (fun x => !x.1) && (backToKw cpos (keywordEach [] X.env)).all (fun x => x.1.isSome) && decide ((e :: es).length + ([] : List Keyword).length + (if ([] : List Keyword).isEmpty then 0 else 1) < 30)) = true := by rfl)
    (hline : (apos.endLine == cpos.line) = true := by rfl) (hs : starEach (e :: es) X.env = (false, eval e X.env) :: starEach es X.env := by rfl) (hplain : (backTo cpos (starEach es X.env)).any (·.1) = false := by rfl) :
    PD X (.Call (.Attribute o "pop" apos) (e :: es) [] cpos) (dMtL rPopLD do_ da) := by
  obtain ⟨to, a1, b1⟩ := ho
  obtain ⟨ta, a2, b2⟩ := ha
  refine ⟨_, pe_bm PySem.F.plainAttrs_list PySem.F.slot_list_pop PySem.F.type_list_pop mt_popAt a1 a2 hbase hfew hline hs hplain, fun G H σ σd Qd Q g re h k => ?_⟩
  refine b1 G H σ σd _ _ g re h fun v d G1 H1 o1 r1 ⟨⟨a, es0, ex, ea⟩, q1⟩ => ?_
  subst ex
  cases r1
  obtain ⟨vs0, hH, _⟩ := o1.gd a _ ea
  refine ⟨.inl ⟨rfl, vs0, .of hH⟩, b2 G1 H1 σ σd _ _ o1.gd (re.sb (o1.sb g)) q1 fun vs ds G2 H2 o2 r2 q2 => ?_⟩
  unfold rPopLD at q2
  split at q2
  · obtain ⟨a', es, kk, y, ex, ea2, h1, h2, h3, h4, q⟩ := q2
    cases ex
    cases r2 with
    | cons r2 rt =>
      cases rt
      cases r2
      obtain ⟨ws, hW, rw'⟩ := o2.gd a _ ea2
      obtain ⟨yv, ey, ry⟩ := rw'.get h4
      refine ⟨a, ws, _, kk, yv, rfl, rfl, hW, h1, h2, by rw [rw'.length]; exact h3, ey, ?_⟩
      have s := sb_write (K := X.K) (o := .lst (ws.eraseIdx kk)) o2.gd ea2
      exact k _ _ _ _ ((o1.trans o2).trans (.writeL o2.gd ea2 ((rw'.erase kk).sb s))) (ry.sb s) q
  · exact q2.elim
/-- xs.extend(ys), ys a live list or a new one -/
@[simp] def rExtD : D → List D → Gp → KD → Prop := fun x ds G Q => match ds with
  | [.ref b] => ∃ a es fs, x = .ref a ∧ G a = some (.lst es) ∧ G b = some (.lst fs) ∧ es.length + fs.length ≤ 100000 ∧ Q .non (updG G a (.lst (es ++ fs)))
  | _ => False
theorem pd_extend {o : Expr} {es : List Expr} {do_ : DE} (ho : PD X o do_) (ha : PDa X (e :: es) da) (hbase : attributeBase o "extend" X.env (eval o X.env) = eval o X.env := by rfl)
    (hfew : ((backTo cpos (starEach (e :: es) X.env)).all (fun x => !x.1) && (backToKw cpos (keywordEach [] X.env)).all (fun x => x.1.isSome) && decide ((e :: es).length + ([] : List Keyword).length + (if ([] : List Keyword).isEmpty then 0 else 1) < 30)) = true := by rfl)
    (hline : (apos.endLine == cpos.line) = true := by rfl) (hs : starEach (e :: es) X.env = (false, eval e X.env) :: starEach es X.env := by rfl) (hplain : (backTo cpos (starEach es X.env)).any (·.1) = false := by rfl) :
    PD X (.Call (.Attribute o "extend" apos) (e :: es) [] cpos) (dMtL rExtD do_ da) := by
  obtain ⟨to, a1, b1⟩ := ho
  obtain ⟨ta, a2, b2⟩ := ha
  refine ⟨_, pe_bm PySem.F.plainAttrs_list PySem.F.slot_list_extend PySem.F.type_list_extend mt_extend a1 a2 hbase hfew hline hs hplain, fun G H σ σd Qd Q g re h k => ?_⟩
  refine b1 G H σ σd _ _ g re h fun v d G1 H1 o1 r1 ⟨⟨a, es0, ex, ea⟩, q1⟩ => ?_
  subst ex
  cases r1
  obtain ⟨vs0, hH, _⟩ := o1.gd a _ ea
  refine ⟨.inl ⟨rfl, vs0, .of hH⟩, b2 G1 H1 σ σd _ _ o1.gd (re.sb (o1.sb g)) q1 fun vs ds G2 H2 o2 r2 q2 => ?_⟩
  unfold rExtD at q2
  split at q2
  · obtain ⟨a', es, fs, ex, ea2, eb2, hz, q⟩ := q2
    cases ex
    cases r2 with
    | cons r2 rt =>
      cases rt
      cases r2
      obtain ⟨ws, hW, rw'⟩ := o2.gd a _ ea2
      obtain ⟨us, hU, ru⟩ := o2.gd _ _ eb2
      refine ⟨a, _, ws, us, rfl, rfl, hW, hU, by rw [rw'.length, ru.length]; exact line_of hz, ?_⟩
      exact k _ _ _ _ ((o1.trans o2).trans (.writeL o2.gd ea2 ((rw'.append ru).sb (sb_write o2.gd ea2)))) .non q
  · exact q2.elim
/-- d.get(k), d.get(k, x) -/
@[simp] def dGet1 (dd dk : DE) : DE := fun σ G Q => dd σ G fun x G1 => isDic G1 x ∧ dk σ G1 fun y G2 => ∃ ks k, asD G2 x = .dic ks ∧ keyD y = some k ∧ Q ((valD ks k).getD .non) G2
@[simp] def dGet2 (dd dk dx : DE) : DE := fun σ G Q => dd σ G fun x G1 => isDic G1 x ∧ dk σ G1 fun y G2 => dx σ G2 fun z G3 => ∃ ks k, asD G3 x = .dic ks ∧ keyD y = some k ∧ Q ((valD ks k).getD z) G3
theorem isD_as {K : PySem.W.Frag} {G : Gp} {H : Hp} (g : Gd K G H) {v : V} {x : D} (r : RD K H v x) (h : isDic G x) : ∃ a, v = .ref a ∧ IsD H a := by
  obtain ⟨ks, h⟩ := h
  obtain ⟨a, vs, ev, hd, _⟩ := dk_as g r h
  exact ⟨a, ev, .inl ⟨vs, hd⟩⟩
theorem getD_rel {K : PySem.W.Frag} {H : Hp} {vs : List (Key × V)} {ks : List (Key × D)} {k : Key} (r : RDk K H vs ks) {z : V} {d : D} (rz : RD K H z d) : RD K H ((valV vs k).getD z) ((valD ks k).getD d) := by
  cases e : valD ks k with
  | none => rw [r.none e]; exact rz
  | some x =>
    obtain ⟨v, ev, rv⟩ := r.some e
    rw [ev]; exact rv
theorem pd_get1 {o : Expr} {dd dk : DE} (hu : X.A.units + 64 < cLine) (ho : PD X o dd) (he : PD X e dk) (m : M1 X o "get" apos e cpos) : PD X (.Call (.Attribute o "get" apos) [e] [] cpos) (dGet1 dd dk) := by
  obtain ⟨to, a1, b1⟩ := ho
  obtain ⟨ta, a2, b2⟩ := he
  refine ⟨_, pe_dget1 (by omega) a1 a2 m, fun G H σ σd Qd Q g re h k => ?_⟩
  refine b1 G H σ σd _ _ g re h fun v d G1 H1 o1 r1 ⟨hd, q1⟩ => ?_
  obtain ⟨a, ev, hD⟩ := isD_as o1.gd r1 hd
  refine ⟨a, ev, hD, b2 G1 H1 σ σd _ _ o1.gd (re.sb (o1.sb g)) q1 fun y dy G2 H2 o2 r2 ⟨ks, kk, e2, ek, q⟩ => ?_⟩
  have r1' := r1.sb (o2.sb o1.gd)
  obtain ⟨a', vs, ev', hv, hg⟩ := dget_as o2.gd r1' e2 r2 ek
  rw [ev] at ev'
  cases ev'
  exact ⟨_, hg, k _ _ _ _ (o1.trans o2) (getD_rel hv .non) q⟩
theorem pd_get2 {o f : Expr} {dd dk dx : DE} (hu : X.A.units + 64 < cLine) (ho : PD X o dd) (he : PD X e dk) (hf : PD X f dx) (m : M2 X o "get" apos e f cpos) : PD X (.Call (.Attribute o "get" apos) [e, f] [] cpos) (dGet2 dd dk dx) := by
  obtain ⟨to, a1, b1⟩ := ho
  obtain ⟨ta, a2, b2⟩ := he
  obtain ⟨tf, a3, b3⟩ := hf
  refine ⟨_, pe_dget2 (by omega) a1 a2 a3 m, fun G H σ σd Qd Q g re h k => ?_⟩
  refine b1 G H σ σd _ _ g re h fun v d G1 H1 o1 r1 ⟨hd, q1⟩ => ?_
  obtain ⟨a, ev, hD⟩ := isD_as o1.gd r1 hd
  refine ⟨a, ev, hD, b2 G1 H1 σ σd _ _ o1.gd (re.sb (o1.sb g)) q1 fun y dy G2 H2 o2 r2 q2 => ?_⟩
  have o12 := o1.trans o2
  refine b3 G2 H2 σ σd _ _ o2.gd (re.sb (o12.sb g)) q2 fun z dz G3 H3 o3 r3 ⟨ks, kk, e2, ek, q⟩ => ?_
  have r1' := r1.sb ((o2.trans o3).sb o1.gd)
  obtain ⟨a', vs, ev', hv, hg⟩ := dget_as o3.gd r1' e2 (r2.sb (o3.sb o2.gd)) ek
  rw [ev] at ev'
  cases ev'
  exact ⟨_, hg, k _ _ _ _ (o12.trans o3) (getD_rel hv r3) q⟩
/-- d.pop(k), there; d.pop(k, x) -/
@[simp] def dPop1 (dd dk : DE) : DE := fun σ G Q => dd σ G fun x G1 => isDic G1 x ∧ dk σ G1 fun y G2 => ∃ a ks k v, x = .ref a ∧ G2 a = some (.dic ks) ∧ keyD y = some k ∧ valD ks k = some v ∧ Q v (updG G2 a (.dic (dropD ks k)))
@[simp] def dPop2 (dd dk dx : DE) : DE := fun σ G Q => dd σ G fun x G1 => isDic G1 x ∧ dk σ G1 fun y G2 => dx σ G2 fun z G3 => ∃ a ks k, x = .ref a ∧ G3 a = some (.dic ks) ∧ keyD y = some k ∧ (match valD ks k with
  | some v => Q v (updG G3 a (.dic (dropD ks k)))
  | none => Q z G3)
theorem pd_pop1 {o : Expr} {dd dk : DE} (ho : PD X o dd) (he : PD X e dk) (m : M1 X o "pop" apos e cpos) : PD X (.Call (.Attribute o "pop" apos) [e] [] cpos) (dPop1 dd dk) := by
  obtain ⟨to, a1, b1⟩ := ho
  obtain ⟨ta, a2, b2⟩ := he
  refine ⟨_, pe_dpop1 a1 a2 m, fun G H σ σd Qd Q g re h k => ?_⟩
  refine b1 G H σ σd _ _ g re h fun v d G1 H1 o1 r1 ⟨hd, q1⟩ => ?_
  obtain ⟨a, ev, hD⟩ := isD_as o1.gd r1 hd
  refine ⟨a, ev, hD, b2 G1 H1 σ σd _ _ o1.gd (re.sb (o1.sb g)) q1 fun y dy G2 H2 o2 r2 ⟨a', ks, kk, vd, ex, ea, ek, hv, q⟩ => ?_⟩
  subst ex
  cases r1
  cases ev
  obtain ⟨vs, hH, hr⟩ := o2.gd a _ ea
  obtain ⟨w, ew, rw'⟩ := hr.some hv
  have s := sb_write (K := X.K) (o := .dK (dropK vs kk)) o2.gd ea
  exact ⟨vs, kk, w, hH, keyD_of r2 ek, ew, k _ _ _ _ ((o1.trans o2).trans (.writeK o2.gd ea ((RDk.drop kk hr).sb s))) (rw'.sb s) q⟩
theorem pd_pop2 {o f : Expr} {dd dk dx : DE} (ho : PD X o dd) (he : PD X e dk) (hf : PD X f dx) (m : M2 X o "pop" apos e f cpos) : PD X (.Call (.Attribute o "pop" apos) [e, f] [] cpos) (dPop2 dd dk dx) := by
  obtain ⟨to, a1, b1⟩ := ho
  obtain ⟨ta, a2, b2⟩ := he
  obtain ⟨tf, a3, b3⟩ := hf
  refine ⟨_, pe_dpop2 a1 a2 a3 m, fun G H σ σd Qd Q g re h k => ?_⟩
  refine b1 G H σ σd _ _ g re h fun v d G1 H1 o1 r1 ⟨hd, q1⟩ => ?_
  obtain ⟨a, ev, hD⟩ := isD_as o1.gd r1 hd
  refine ⟨a, ev, hD, b2 G1 H1 σ σd _ _ o1.gd (re.sb (o1.sb g)) q1 fun y dy G2 H2 o2 r2 q2 => ?_⟩
  have o12 := o1.trans o2
  refine b3 G2 H2 σ σd _ _ o2.gd (re.sb (o12.sb g)) q2 fun z dz G3 H3 o3 r3 ⟨a', ks, kk, ex, ea, ek, q⟩ => ?_
  subst ex
  cases r1
  cases ev
  obtain ⟨vs, hH, hr⟩ := o3.gd a _ ea
  have s := sb_write (K := X.K) (o := .dK (dropK vs kk)) o3.gd ea
  refine ⟨vs, kk, hH, keyD_of (r2.sb (o3.sb o2.gd)) ek, fun w ew => ?_, fun en => ?_⟩
  · split at q
    · rename_i vd hv
      obtain ⟨w', ew', rw'⟩ := hr.some hv
      rw [ew] at ew'
      cases ew'
      exact k _ _ _ _ ((o12.trans o3).trans (.writeK o3.gd ea ((RDk.drop kk hr).sb s))) (rw'.sb s) q
    · rename_i hv
      rw [hr.none hv] at ew
      cases ew
  · split at q
    · rename_i vd hv
      obtain ⟨w', ew', rw'⟩ := hr.some hv
      rw [en] at ew'
      cases ew'
    · exact k _ _ _ _ (o12.trans o3) r3 q
/-! ### displays of dicts -/
@[simp] def dPairs : List (DE × DE) → Sd → Gp → (List (Key × D) → Gp → Prop) → Prop
  | [], _, G, Q => Q [] G
  | (dk, dv) :: r, σ, G, Q => dk σ G fun k G1 => dv σ G1 fun v G2 => dPairs r σ G2 fun ps G3 => ∃ kk, keyD k = some kk ∧ Q ((kk, v) :: ps) G3
def AbP (K : PySem.W.Frag) (trs : List (TE × TE)) (dps : Sd → Gp → (List (Key × D) → Gp → Prop) → Prop) : Prop := ∀ G H σ σd (Qd : List (Key × D) → Gp → Prop) (Q : List (V × V) → Hp → Prop), Gd K G H → RE K H σ σd → dps σd G Qd →
  (∀ kvs ds G' H', Go K G H G' H' → RDk K H' kvs ds → Qd ds G' → Q (kvs.map fun kv => (kV kv.1, kv.2)) H') → tPairs trs σ H Q
def PPsd (X : Cx) (pos : Pos) (keys : List (Option Expr)) (values : List Expr) (dps : List (DE × DE)) : Prop := ∃ trs, PPs X pos keys values trs ∧ AbP X.K trs (dPairs dps)
theorem ppsd_nil : PPsd X pos [] [] [] := ⟨_, pps_nil, fun G H σ σd Qd Q g re h k => k [] [] G H (.refl g) .nil h⟩
theorem ppsd_cons {k v : Expr} {ks : List (Option Expr)} {vs : List Expr} {dk dv : DE} {dps : List (DE × DE)} (hk : PD X k dk) (hv : PD X v dv) (hr : PPsd X pos ks vs dps) : PPsd X pos (some k :: ks) (v :: vs) ((dk, dv) :: dps) := by
  obtain ⟨_, a1, b1⟩ := hk
  obtain ⟨_, a2, b2⟩ := hv
  obtain ⟨_, a3, b3⟩ := hr
  refine ⟨_, pps_cons a1 a2 a3, fun G H σ σd Qd Q g re h c => ?_⟩
  refine b1 G H σ σd _ _ g re h fun x dx G1 H1 o1 r1 q1 => ?_
  refine b2 G1 H1 σ σd _ _ o1.gd (re.sb (o1.sb g)) q1 fun y dy G2 H2 o2 r2 q2 => ?_
  have o12 := o1.trans o2
  refine b3 G2 H2 σ σd _ _ o2.gd (re.sb (o12.sb g)) q2 fun kvs ds G3 H3 o3 r3 ⟨kk, ek, q⟩ => ?_
  have rk := r1.sb ((o2.trans o3).sb o1.gd)
  have e := keyD_of rk ek
  subst e
  exact c ((kk, y) :: kvs) _ _ _ (o12.trans o3) (.cons (okK_of rk ek) (r2.sb (o3.sb o2.gd)) r3) q
@[simp] def dDisp (dps : List (DE × DE)) : DK := fun σ G Q => dPairs dps σ G fun ps G1 => ps.length ≤ 15 ∧ Q (mergeD [] ps) G1
theorem pk_disp {keys : List (Option Expr)} {values : List Expr} {dps : List (DE × DE)} (h : PPsd X pos keys values dps) (hall : keys.all (·.isSome) = true := by rfl) (hl : keys.length = values.length := by rfl) (h0 : keys ≠ [] := by exact fun z => by cases z) (hn : keys.length ≤ 15 := by decide) :
    PDk X (.Dict keys values pos) (dDisp dps) := by
  obtain ⟨trs, a, b⟩ := h
  refine ⟨_, pe_disp a hall hl h0 hn, fun G H σ σd Qd Q g re h k => fun p hp => ?_⟩
  have o1 : Go X.K G H G (upd H p (.dK [])) := .new g hp
  refine b G _ σ σd _ _ o1.gd (re.sb (sb_new hp)) h fun kvs ds G1 H1 o2 r2 ⟨hz, q⟩ => ?_
  have e1 : H1 p = some (.dK []) := o2.fr p _ upd_same (g.none_of hp)
  have n1 : G1 p = none := o2.nw p (by rw [upd_same]; exact fun z => nomatch z) (g.none_of hp)
  refine ⟨e1, kvs, rfl, by rw [r2.length]; exact hz, ?_⟩
  have s := sb_mut (K := X.K) (o := .dK (mergeK [] kvs)) e1 trivial
  exact k p _ _ _ _ ((o1.trans o2).setN hp n1 e1 trivial) n1 hp upd_same ((RDk.merge ds r2 .nil).sb s) q
@[simp] def dEmptyK : DK := fun _ G Q => Q [] G
theorem pk_empty : PDk X (.Dict [] [] pos) dEmptyK := ⟨_, pe_dnewK, fun G H σ σd Qd Q g re h k => fun p hp => k p [] [] G _ (.new g hp) (g.none_of hp) hp upd_same .nil h⟩
end
end Dl

end
section
set_option maxHeartbeats 4000000
namespace Dl
open PySem PySem.Spec PyProof.Rows L2

/-! ### defs of one's own, promises over data -/
abbrev SpD := List D → Gp → KD → Prop
def spOf (K : PySem.W.Frag) (sd : SpD) : Sp := fun vs H Q _ => ∃ ds G Qd, Gd K G H ∧ RDs K H vs ds ∧ sd ds G Qd ∧ ∀ v H' d G', Go K G H G' H' → RD K H' v d → Qd d G' → Q v H'
structure Has (P : Program) (w : World) (K : PySem.W.Frag) (mg : Str → Option Value) (base : Heap) (k : Nat) (x : Str) (st : Stmt) (ps : List Str) (sd : SpD) : Prop where
  ex : ∃ f fd, mg x = some (.ref f) ∧ FunD K x x (defArgs st) (defBody st) (defScope st) [] [] f fd ∧ Binds K fd ps [] ∧ FnOk P w K mg base CX0 k f fd ps (spOf K sd)
theorem Has.mono {P : Program} {w : World} {K : PySem.W.Frag} {mg : Str → Option Value} {base : Heap} {j k : Nat} {x : Str} {st : Stmt} {ps : List Str} {sd : SpD} (h : Has P w K mg base j x st ps sd) (l : j ≤ k) : Has P w K mg base k x st ps sd := by
  obtain ⟨f, fd, a, b, c, d⟩ := h.ex
  exact ⟨f, fd, a, b, c, d.mono l⟩
theorem Has.imp {P : Program} {w : World} {K : PySem.W.Frag} {mg : Str → Option Value} {base : Heap} {k : Nat} {x : Str} {st : Stmt} {ps : List Str} {sd sd' : SpD} (h : Has P w K mg base k x st ps sd) (l : ∀ ds G Q, sd' ds G Q → sd ds G Q) : Has P w K mg base k x st ps sd' := by
  obtain ⟨f, fd, a, b, c, d⟩ := h.ex
  exact ⟨f, fd, a, b, c, d.imp fun vs H Q E ⟨ds, G, Qd, h1, h2, h3, h4⟩ => ⟨ds, G, Qd, h1, h2, l _ _ _ h3, h4⟩⟩
@[simp] def startD (N : List Str) (ds : List D) : Sd := ds.map some ++ List.replicate (N.length - ds.length) none
theorem re_start {K : PySem.W.Frag} {H : Hp} {N : List Str} {vs : List V} {ds : List D} (r : RDs K H vs ds) : RE K H (L2.start N vs) (startD N ds) := by
  refine ⟨by unfold L2.start startD; rw [List.length_append, List.length_append, List.length_map, List.length_map, List.length_replicate, List.length_replicate, r.length], fun i d e => ?_⟩
  unfold startD at e
  unfold L2.start
  by_cases hi : i < ds.length
  · rw [List.getElem?_append_left (by simpa using hi), List.getElem?_map] at e
    cases q : ds[i]? with
    | none => rw [q] at e; cases e
    | some z =>
      rw [q] at e
      cases e
      obtain ⟨v, ev, rv⟩ := r.get q
      exact ⟨v, by rw [List.getElem?_append_left (by rw [List.length_map, r.length]; exact hi), List.getElem?_map, ev]; rfl, rv⟩
  · rw [List.getElem?_append_right (by simpa using hi), List.getElem?_replicate] at e
    split at e <;> cases e
/-- THE RULE for a def -/
theorem has_of {P : Program} {w : World} {K : PySem.W.Frag} {mg : Str → Option Value} {base : Heap} {k : Nat} {x : Str} {st : Stmt} {N ps : List Str} {sd : SpD} {b : DS} {f : Addr} {fd : FuncData} (F : FunD K x x (defArgs st) (defBody st) (defScope st) [] [] f fd) (hm : mg x = some (.ref f))
    (hb : ∀ (kV doc pm : Value) (an : Option Addr) (cdv ct : Value) (us : List Value), us.length = ps.length → bindArgs (PySem.W.fnOf x x (defArgs st) (defBody st) (defScope st) .none kV doc pm an cdv ct) ⟨us, []⟩ = pure (ps.zip us))
    (S : FnScope N ps (defScope st)) (len : ∀ ds G Q, sd ds G Q → ds.length = ps.length)
    (walk : ∀ (cdv : Value) (A : Around) (outer : List Env) (s : Shared) (H : Hp) (E : XK), Room k (A.deeper (envOfC x (defScope st) s.heap.objs.size f cdv)) → PSsd (cxOf CX0 P w K mg base N x (defScope st) f cdv A outer s H E).nox (defBody st) b)
    (read : ∀ ds G Q, sd ds G Q → b { nx := fun _ G' => Q .non G', rt := Q } (startD N ds) G) : Has P w K mg base (k + 1) x st ps sd := by
  refine ⟨f, fd, hm, F, F.bindsN hb, F.ok S (fun vs H Q E ⟨ds, G, Qd, g, r, h, _⟩ => by rw [r.length]; exact len ds G Qd h) fun cdv A outer s H vs Q E hr ⟨ds, G, Qd, g, r, h, kk⟩ => ?_⟩
  obtain ⟨t, a, ab⟩ := walk cdv A outer s H E hr
  refine ⟨t, a.nox, ab G H _ _ { nx := fun _ G' => Qd .non G', rt := Qd } _ g (re_start r) (read ds G Qd h) ⟨fun σ' σd' G' H' o re q => kk _ _ _ _ o .non q, fun v d G' H' o rv q => kk _ _ _ _ o rv q, fun σ' σd' G' H' o re q => q.elim, fun σ' σd' G' H' o re q => q.elim⟩⟩
/-! ### calls -/
@[simp] def dCall (sd : SpD) (da : DA) : DE := fun σ G Q => da σ G fun ds G1 => sd ds G1 Q
section
variable {X : Cx} {k : Nat} {x : Str} {st : Stmt} {ps : List Str} {sd : SpD} {p pos : Pos} {e : Expr} {es : List Expr} {da dk : DA} {kws : List Keyword}
theorem pd_call (h : Has X.prog X.w X.K X.mg X.base k x st ps sd) (hr : Room k X.A) (ha : PDa X (e :: es) da) (hg : Gl X x := by rfl) (hdb : (x == ("__debug__" : Str)) = false := by decide)
    (he : starEach (e :: es) X.env = (false, eval e X.env) :: starEach es X.env := by rfl) (hpl : (backTo pos (starEach es X.env)).any (·.1) = false := by rfl) : PD X (.Call (.Name x p) (e :: es) [] pos) (dCall sd da) := by
  obtain ⟨f, fd, hm, F, hb, ok⟩ := h.ex
  obtain ⟨ta, a, b⟩ := ha
  refine ⟨_, pe_call ok hr hg hm F.kp hb .nil pass0 a hdb he hpl, fun G H σ σd Qd Q g re h c => ?_⟩
  refine b G H σ σd _ _ g re h fun vs ds G1 H1 o r q => ?_
  rw [List.append_nil]
  exact ⟨ds, G1, Qd, o.gd, r, q, fun v H' d G' o' r' q' => c v d G' H' (o.trans o') r' q'⟩
theorem pd_call0 (h : Has X.prog X.w X.K X.mg X.base k x st ps sd) (hr : Room k X.A) (hg : Gl X x := by rfl) (hdb : (x == ("__debug__" : Str)) = false := by decide) : PD X (.Call (.Name x p) [] [] pos) (dCall sd dNil) := by
  obtain ⟨f, fd, hm, F, hb, ok⟩ := h.ex
  refine ⟨_, pe_call0 ok hr hg hm F.kp hb .nil pass0 hdb, fun G H σ σd Qd Q g re h c => ?_⟩
  refine ab_nil G H σ σd _ _ g re h fun vs ds G1 H1 o r q => ?_
  rw [List.append_nil]
  exact ⟨ds, G1, Qd, o.gd, r, q, fun v H' d G' o' r' q' => c v d G' H' (o.trans o') r' q'⟩
/-! keywords: perm tells which of the written values (positional ones first) goes to which parameter -/
@[simp] def pick {α : Type} (perm : List Nat) (us ws : List α) : List α := perm.filterMap fun i => (us ++ ws)[i]?
def PKd (X : Cx) (kws : List Keyword) (da : DA) : Prop := ∃ tk, PK X kws tk ∧ AbA X.K tk da
theorem pkd_nil : PKd X [] dNil := ⟨_, pk_nil, ab_nil⟩
theorem pkd_cons {nm : Option Str} {kpos : Pos} {de : DE} {dr : DA} (ha : PD X e de) (hr : PKd X kws dr) : PKd X (⟨nm, e, kpos⟩ :: kws) (dCons de dr) := let ⟨_, a, b⟩ := ha; let ⟨_, c, d⟩ := hr; ⟨_, pk_cons a c, ab_cons b d⟩
@[simp] def dCallK (sd : SpD) (perm : List Nat) (n m : Nat) (da dk : DA) : DE := fun σ G Q => da σ G fun ds G1 => dk σ G1 fun es G2 => ds.length = n ∧ es.length = m ∧ sd (pick perm ds es) G2 Q
theorem vals_pick {vs zs : List V} {us ws : List Value} (perm : List Nat) (r : Vals vs us) (rz : Vals zs ws) : Vals (pick perm vs zs) (pick perm us ws) := by
  unfold pick
  induction perm with
  | nil => exact .nil
  | cons i r' ih =>
    have q := r.append rz
    rw [List.filterMap_cons, List.filterMap_cons]
    cases e : (vs ++ zs)[i]? with
    | none => rw [q.none_of e]; exact ih
    | some v =>
      obtain ⟨u, eu, ru⟩ := q.get e
      rw [eu]
      exact .cons ru ih
theorem rds_pick {K : PySem.W.Frag} {H : Hp} {vs zs : List V} {ds es : List D} (perm : List Nat) (r : RDs K H vs ds) (rz : RDs K H zs es) : RDs K H (pick perm vs zs) (pick perm ds es) := by
  unfold pick
  induction perm with
  | nil => exact .nil
  | cons i r' ih =>
    have q := r.append rz
    rw [List.filterMap_cons, List.filterMap_cons]
    cases e : (ds ++ es)[i]? with
    | none =>
      have e2 : (vs ++ zs)[i]? = none := by
        rw [List.getElem?_eq_none_iff] at e ⊢
        rw [q.length]; exact e
      rw [e2]; exact ih
    | some d =>
      obtain ⟨u, eu, ru⟩ := q.get e
      rw [eu]
      exact .cons ru ih
theorem kbn_of {K : PySem.W.Frag} {f : Addr} {fd : FuncData} {ks : List Str} {n : Nat} {perm : List Nat} (F : FunD K x x (defArgs st) (defBody st) (defScope st) [] [] f fd)
    (h : ∀ (kV doc pm : Value) (an : Option Addr) (cdv ct : Value) (us ws : List Value), us.length = n → ws.length = ks.length → bindArgs (PySem.W.fnOf x x (defArgs st) (defBody st) (defScope st) .none kV doc pm an cdv ct) ⟨us, ks.zip ws⟩ = pure (ps.zip (pick perm us ws))) :
    KBn K fd ps n ks (pick perm) (pick perm) := by
  obtain ⟨oc, od, dV, kV, doc, pm, an, cdv, ct, osl, rfl, lk, hcd, hD, hK⟩ := F.ex
  rcases hD with ⟨_, rfl⟩ | ⟨e, _⟩
  · exact ⟨fun s us ws X h1 h2 => .of_eq (h kV doc pm an cdv ct us ws h1 h2), fun r rz => vals_pick perm r rz⟩
  · exact absurd rfl e
theorem pd_callK {ks : List Str} {n : Nat} {perm : List Nat} (h : Has X.prog X.w X.K X.mg X.base k x st ps sd) (hr : Room k X.A)
    (hb : ∀ (kV doc pm : Value) (an : Option Addr) (cdv ct : Value) (us ws : List Value), us.length = n → ws.length = ks.length → bindArgs (PySem.W.fnOf x x (defArgs st) (defBody st) (defScope st) .none kV doc pm an cdv ct) ⟨us, ks.zip ws⟩ = pure (ps.zip (pick perm us ws)))
    (ha : PDa X (e :: es) da) (hkw : PKd X kws dk) (hg : Gl X x := by rfl) (hall : (backToKw pos (keywordEach kws X.env)).all (·.1.isSome) = true := by rfl) (hks : (backToKw pos (keywordEach kws X.env)).filterMap (·.1) = ks := by rfl)
    (hdb : (x == ("__debug__" : Str)) = false := by decide) (he : starEach (e :: es) X.env = (false, eval e X.env) :: starEach es X.env := by rfl)
    (hpl : ((backTo pos (starEach (e :: es) X.env)).any (·.1) || (backToKw pos (keywordEach kws X.env)).any (·.1.isNone)) = false := by rfl) : PD X (.Call (.Name x p) (e :: es) kws pos) (dCallK sd perm n ks.length da dk) := by
  obtain ⟨f, fd, hm, F, _, ok⟩ := h.ex
  obtain ⟨ta, a, b⟩ := ha
  obtain ⟨tk, a2, b2⟩ := hkw
  refine ⟨_, pe_callN ok hr hg hm F.kp (kbn_of F hb) pass0 a a2 hall hks hdb he hpl, fun G H σ σd Qd Q g re h c => ?_⟩
  refine b G H σ σd _ _ g re h fun vs ds G1 H1 o r q => ?_
  refine b2 G1 H1 σ σd _ _ o.gd (re.sb (o.sb g)) q fun zs es G2 H2 o2 r2 ⟨l1, l2, q2⟩ => ⟨by rw [r.length]; exact l1, by rw [r2.length]; exact l2, ?_⟩
  exact ⟨_, G2, Qd, o2.gd, rds_pick perm (r.sb (o2.sb o.gd)) r2, q2, fun v H' d G' o' r' q' => c v d G' H' ((o.trans o2).trans o') r' q'⟩
theorem pd_callK0 {ks : List Str} {perm : List Nat} (h : Has X.prog X.w X.K X.mg X.base k x st ps sd) (hr : Room k X.A)
    (hb : ∀ (kV doc pm : Value) (an : Option Addr) (cdv ct : Value) (us ws : List Value), us.length = 0 → ws.length = ks.length → bindArgs (PySem.W.fnOf x x (defArgs st) (defBody st) (defScope st) .none kV doc pm an cdv ct) ⟨us, ks.zip ws⟩ = pure (ps.zip (pick perm us ws)))
    (hkw : PKd X kws dk) (hg : Gl X x := by rfl) (hall : (backToKw pos (keywordEach kws X.env)).all (·.1.isSome) = true := by rfl) (hks : (backToKw pos (keywordEach kws X.env)).filterMap (·.1) = ks := by rfl)
    (hdb : (x == ("__debug__" : Str)) = false := by decide)
    (hpl : ((backTo pos (starEach [] X.env)).any (·.1) || (backToKw pos (keywordEach kws X.env)).any (·.1.isNone)) = false := by rfl) : PD X (.Call (.Name x p) [] kws pos) (dCallK sd perm 0 ks.length dNil dk) := by
  obtain ⟨f, fd, hm, F, _, ok⟩ := h.ex
  obtain ⟨tk, a2, b2⟩ := hkw
  refine ⟨fun σ H Q => tk σ H fun zs H2 => zs.length = ks.length ∧ spOf X.K sd (pick perm [] zs) H2 Q E0, ⟨fun pins s σ H Q I h => ?_⟩, fun G H σ σd Qd Q g re h c => ?_⟩
  · refine wpAny_Call_Name_kw (ld_glob I hg hm ?_ hdb)
    refine PySem.W.callWith_KW0 (h₀ := X.base) I.ok.mod.kin F.kp hall ?_ hpl
    refine thn (a2.run pos pins s σ H _ I h) fun ws s2 ⟨zs, H2, I2, rz, l2, q2⟩ => ⟨I2.kIn, ?_⟩
    rw [hks]
    exact run_fnN ok hr (kbn_of F hb) pass0 I2 (us := []) (vs := []) .nil rz rfl l2 q2
  · obtain ⟨h1⟩ : dCallK sd perm 0 ks.length dNil dk σd G Qd ∧ True := ⟨h, trivial⟩
    have h2 : dk σd G fun es G2 => ([] : List D).length = 0 ∧ es.length = ks.length ∧ sd (pick perm [] es) G2 Qd := h1
    refine b2 G H σ σd _ _ g re h2 fun zs es G2 H2 o2 r2 ⟨_, l2, q2⟩ => ⟨by rw [r2.length]; exact l2, ?_⟩
    exact ⟨_, G2, Qd, o2.gd, rds_pick perm .nil r2, q2, fun v H' d G' o' r' q' => c v d G' H' (o2.trans o') r' q'⟩
end
/-! ### pure defs -/
/-- hands back a value, leaves everything as it is -/
def pureSp (f : List D → Option D) : SpD := fun ds G Q => ∃ d, f ds = some d ∧ Q d G
end Dl

end
section
set_option maxHeartbeats 4000000
namespace Dl
open PySem PySem.Spec PyProof.Rows L2

/-! ### order of keys; sorting by keys -/
def ltKey : Key → Key → Bool
  | .inl i, .inl j => decide (i < j)
  | .inr s, .inr t => decide (s.cps.toList < t.cps.toList)
  | .inl _, .inr _ => true
  | .inr _, .inl _ => false
theorem ltKey_asym {a b : Key} (h : ltKey a b = true) : ltKey b a = false := by
  cases a with
  | inl i => cases b with
    | inl j => simp [ltKey] at h ⊢; omega
    | inr t => rfl
  | inr s => cases b with
    | inl j => cases h
    | inr t =>
      have h' : s.cps.toList < t.cps.toList := by simpa [ltKey] using h
      show decide (t.cps.toList < s.cps.toList) = false
      exact decide_eq_false (List.lt_asymm h')
theorem ltKey_tr {a b c : Key} (h1 : ltKey a b = false) (h2 : ltKey b c = false) : ltKey a c = false := by
  cases a with
  | inl i => cases b with
    | inl j => cases c with
      | inl k => simp [ltKey] at h1 h2 ⊢; omega
      | inr t => cases h2
    | inr t => cases h1
  | inr s => cases b with
    | inl j => cases c with
      | inl k => rfl
      | inr t => cases h2
    | inr t => cases c with
      | inl k => rfl
      | inr u =>
        have e1 : ¬ s.cps.toList < t.cps.toList := by simpa [ltKey] using h1
        have e2 : ¬ t.cps.toList < u.cps.toList := by simpa [ltKey] using h2
        show decide (s.cps.toList < u.cps.toList) = false
        refine decide_eq_false fun z => ?_
        have f1 : t.cps.toList ≤ s.cps.toList := List.not_lt.mp e1
        have f2 : u.cps.toList ≤ t.cps.toList := List.not_lt.mp e2
        exact absurd z (List.not_lt.mpr (List.le_trans f2 f1))
theorem ltKey_eq {a b : Key} (h1 : ltKey a b = false) (h2 : ltKey b a = false) : a = b := by
  cases a with
  | inl i => cases b with
    | inl j => simp [ltKey] at h1 h2 ⊢; omega
    | inr t => cases h1
  | inr s => cases b with
    | inl j => cases h2
    | inr t =>
      have e1 : ¬ s.cps.toList < t.cps.toList := by simpa [ltKey] using h1
      have e2 : ¬ t.cps.toList < s.cps.toList := by simpa [ltKey] using h2
      have f1 : t.cps.toList ≤ s.cps.toList := List.not_lt.mp e1
      have f2 : s.cps.toList ≤ t.cps.toList := List.not_lt.mp e2
      have e : s.cps.toList = t.cps.toList := List.le_antisymm f2 f1
      obtain ⟨⟨x⟩⟩ := s
      obtain ⟨⟨y⟩⟩ := t
      have e' : x = y := e
      rw [e']
theorem ltKey_irr (a : Key) : ltKey a a = false := by
  cases h : ltKey a a with
  | false => rfl
  | true => rw [ltKey_asym h] at h; cases h
section
variable {α : Type} (f : α → Key)
def insBy (x : α) : List α → List α
  | [] => [x]
  | y :: r => if ltKey (f y) (f x) = true then y :: insBy x r else x :: y :: r
def srtBy : List α → List α
  | [] => []
  | x :: r => insBy f x (srtBy r)
def SrtdBy (l : List α) : Prop := l.Pairwise fun a b => ltKey (f b) (f a) = false
theorem insBy_perm (x : α) : ∀ l, (insBy f x l).Perm (x :: l)
  | [] => .refl _
  | y :: r => by
    unfold insBy
    split
    · exact ((insBy_perm x r).cons y).trans (.swap x y r)
    · exact .refl _
theorem srtBy_perm : ∀ l : List α, (srtBy f l).Perm l
  | [] => .refl _
  | x :: r => (insBy_perm f x _).trans ((srtBy_perm r).cons x)
theorem insBy_srtd (x : α) : ∀ l, SrtdBy f l → SrtdBy f (insBy f x l)
  | [], _ => List.pairwise_singleton _ _
  | y :: r, h => by
    obtain ⟨h1, h2⟩ := List.pairwise_cons.mp h
    unfold insBy
    split
    · rename_i c
      refine List.pairwise_cons.mpr ⟨fun z hz => ?_, insBy_srtd x r h2⟩
      rcases List.mem_cons.mp ((insBy_perm f x r).mem_iff.mp hz) with e | hz
      · rw [e]; exact ltKey_asym c
      · exact h1 z hz
    · rename_i c
      have c' : ltKey (f y) (f x) = false := by simpa using c
      refine List.pairwise_cons.mpr ⟨fun z hz => ?_, h⟩
      rcases List.mem_cons.mp hz with e | hz
      · rw [e]; exact c'
      · exact ltKey_tr (h1 z hz) c'
theorem srtBy_srtd : ∀ l : List α, SrtdBy f (srtBy f l)
  | [] => List.Pairwise.nil
  | x :: r => insBy_srtd f x _ (srtBy_srtd r)
theorem srtd_uniq : ∀ {l m : List α}, SrtdBy f l → SrtdBy f m → l.Perm m → (∀ a ∈ l, ∀ b ∈ l, f a = f b → a = b) → l = m
  | [], m, _, _, p, _ => (List.Perm.eq_nil p.symm).symm
  | x :: l, [], _, _, p, _ => absurd p.length_eq (by simp)
  | x :: l, y :: m, h1, h2, p, inj => by
    obtain ⟨a1, a2⟩ := List.pairwise_cons.mp h1
    obtain ⟨b1, b2⟩ := List.pairwise_cons.mp h2
    have hy : y ∈ x :: l := p.mem_iff.mpr List.mem_cons_self
    have hx : x ∈ y :: m := p.mem_iff.mp List.mem_cons_self
    have e : x = y := by
      rcases List.mem_cons.mp hy with e | hy'
      · exact e.symm
      · rcases List.mem_cons.mp hx with e | hx'
        · exact e
        · exact inj x List.mem_cons_self y hy (ltKey_eq (b1 x hx') (a1 y hy'))
    subst e
    rw [srtd_uniq a2 b2 p.cons_inv fun a ha b hb => inj a (List.mem_cons_of_mem _ ha) b (List.mem_cons_of_mem _ hb)]
theorem srtBy_uniq {l m : List α} (h : SrtdBy f m) (p : m.Perm l) (inj : ∀ a ∈ l, ∀ b ∈ l, f a = f b → a = b) : m = srtBy f l :=
  srtd_uniq f h (srtBy_srtd f l) (p.trans (srtBy_perm f l).symm) fun a ha b hb => inj a (p.mem_iff.mp ha) b (p.mem_iff.mp hb)
theorem inj_nodup : ∀ {l : List α}, (l.map f).Nodup → ∀ a ∈ l, ∀ b ∈ l, f a = f b → a = b
  | [], _, a, ha, _, _, _ => by cases ha
  | x :: l, h, a, ha, b, hb, e => by
    rw [List.map_cons, List.nodup_cons] at h
    rcases List.mem_cons.mp ha with e1 | ha
    · rcases List.mem_cons.mp hb with e2 | hb
      · rw [e1, e2]
      · exact absurd (by rw [← e1, e]; exact List.mem_map_of_mem hb) h.1
    · rcases List.mem_cons.mp hb with e2 | hb
      · exact absurd (by rw [← e2, ← e]; exact List.mem_map_of_mem ha) h.1
      · exact inj_nodup h.2 a ha b hb e
end
/-- all keys of one kind -/
def oneKind (ks : List Key) : Bool := ks.all (fun k => k.isLeft) || ks.all (fun k => k.isRight)

/-! ### calls that take this or that -/
theorem cr_or {X : Cx} {f : Value} {r r' : List V → Hp → VK → Prop} (h : CallR X f r) (h' : CallR X f r') : CallR X f (fun xs H Q => r xs H Q ∨ r' xs H Q) := by
  intro pins s σ H xs us Q I rv q
  rcases q with q | q
  · exact h pins s σ H xs us Q I rv q
  · exact h' pins s σ H xs us Q I rv q
end Dl

end
section
set_option maxHeartbeats 4000000
namespace Dl
open PySem PySem.Spec PyProof.Rows L2
namespace SP
open SrtO Srt
def IsKP (h : Heap) (v : Value) (k : Key) : Prop := ∃ (a : Addr) (o : Obj) (key rest : Value) (n : Nat), v = .ref a ∧ h.get? a = some o ∧ o.cls = .type "tuple" ∧ o.data = .seq #[key, rest] n ∧ RelV (kV k) key
theorem IsKP.keeps {h h' : Heap} {v : Value} {k : Key} (x : IsKP h v k) (kk : ∀ b o, h.get? b = some o → o.cls = .type "tuple" → h'.get? b = some o) : IsKP h' v k := by
  obtain ⟨a, o, key, rest, n, e, ho, hc, hd, r⟩ := x
  exact ⟨a, o, key, rest, n, e, kk a o ho hc, hc, hd, r⟩
theorem one_split {l : List Key} (h : oneKind l = true) : (∀ k ∈ l, ∃ i, k = .inl i) ∨ ∀ k ∈ l, ∃ s, k = .inr s := by
  unfold oneKind at h
  rw [Bool.or_eq_true, List.all_eq_true, List.all_eq_true] at h
  rcases h with h | h
  · refine .inl fun k hk => ?_
    have := h k hk
    cases k with
    | inl i => exact ⟨i, rfl⟩
    | inr s => cases this
  · refine .inr fun k hk => ?_
    have := h k hk
    cases k with
    | inl i => cases this
    | inr s => exact ⟨s, rfl⟩
theorem swo_key (k : Value → Key) : Swo fun v u => ltKey (k v) (k u) := ⟨fun x y h => ltKey_asym h, fun x y z h1 h2 => by first | exact ltKey_tr h1 h2 | exact ltKey_tr h2 h1⟩
section
variable {prog : Program} {w : World} {A : Around} {E : Value → Shared → Prop} {s : Shared}
theorem kp_cmp {vs : List Value} {k : Value → Key} (hp : ∀ v ∈ vs, IsKP s.heap v (k v)) (inj : ∀ v ∈ vs, ∀ u ∈ vs, k v = k u → v = u) (one : oneKind (vs.map k) = true) : Cmp prog w A s (tuples' true) (fun p => p.1 ∈ vs) (lt2 fun v u => ltKey (k v) (k u)) := by
  intro p q hm hm'
  show wpAny (model prog w) A (keyLt' (tuples' true) p.1 q.1) (fun r s' => s' = s ∧ r = ltKey (k p.1) (k q.1)) (fun _ _ => False) s
  have ij := inj _ hm _ hm'
  have h1 := hp _ hm
  have h2 := hp _ hm'
  have o1 : k p.1 ∈ vs.map k := List.mem_map_of_mem hm
  have o2 : k q.1 ∈ vs.map k := List.mem_map_of_mem hm'
  generalize k p.1 = x at h1 o1 ij ⊢
  generalize k q.1 = y at h2 o2 ij ⊢
  obtain ⟨a, o, key, rest, n, e, ho, hc, hd, r⟩ := h1
  obtain ⟨a', o', key', rest', n', e', ho', hc', hd', r'⟩ := h2
  rw [e, e'] at ij
  rw [e, e']
  refine PySem.W.kat_lt ho hd ho' hd' ?_
  show PySem.W.KatLex prog w A true (decide (2 < 2)) _ [(key, key'), (rest, rest')] 0 s
  have same : x = y → ltKey x y = false ∧ rest = rest' := fun z => by
    have ea := ij z
    cases ea
    rw [ho] at ho'
    cases ho'
    rw [hd] at hd'
    cases hd'
    rw [z]
    exact ⟨ltKey_irr _, rfl⟩
  rcases one_split one with hs | hs
  · obtain ⟨i, rfl⟩ := hs x o1
    obtain ⟨j, rfl⟩ := hs y o2
    obtain ⟨t, rfl⟩ := r
    obtain ⟨t', rfl⟩ := r'
    refine PySem.W.kat_cons (SeqAt.EqAt.int_int i t j t' prog w _ _ ?_)
    refine PySem.W.kat_go (fun e1 => ?_) (fun e1 => ?_)
    · have ex : i = j := by simpa using e1
      obtain ⟨z1, z2⟩ := same (by rw [ex])
      subst z2
      refine PySem.W.kat_yes (PySem.W.kat_cons (SeqAt.EqAt.same rest prog w _ _ ?_))
      exact PySem.W.kat_go (fun _ => PySem.W.kat_yes (PySem.W.kat_nil ⟨rfl, z1.symm⟩)) (fun z => nomatch z)
    · exact PySem.W.kat_no (oneLt_int ⟨rfl, rfl⟩)
  · obtain ⟨i, rfl⟩ := hs x o1
    obtain ⟨j, rfl⟩ := hs y o2
    obtain ⟨t, rfl⟩ := r
    obtain ⟨t', rfl⟩ := r'
    refine PySem.W.kat_cons (SeqAt.EqAt.str_str i t j t' prog w _ _ ?_)
    refine PySem.W.kat_go (fun e1 => ?_) (fun e1 => ?_)
    · have ex : i = j := by simpa using e1
      obtain ⟨z1, z2⟩ := same (by rw [ex])
      subst z2
      refine PySem.W.kat_yes (PySem.W.kat_cons (SeqAt.EqAt.same rest prog w _ _ ?_))
      exact PySem.W.kat_go (fun _ => PySem.W.kat_yes (PySem.W.kat_nil ⟨rfl, z1.symm⟩)) (fun z => nomatch z)
    · exact PySem.W.kat_no (oneLt_str ⟨rfl, rfl⟩)
theorem kp_firsts {h : Heap} {k : Value → Key} : ∀ {vs : List Value}, (∀ v ∈ vs, IsKP h v (k v)) → ∃ fs : List Value, PySem.W.KatTups h vs fs ∧ fs.length = vs.length ∧ Vals (vs.map fun v => kV (k v)) fs
  | [], _ => ⟨[], .nil, rfl, .nil⟩
  | v :: vs, hp => by
    obtain ⟨fs, a, b, c⟩ := kp_firsts (vs := vs) fun u hu => hp u (List.mem_cons_of_mem _ hu)
    obtain ⟨ad, o, key, rest, n, e, ho, hc, hd, r⟩ := hp v List.mem_cons_self
    subst e
    exact ⟨key :: fs, .cons ho hc hd rfl a, by rw [List.length_cons, List.length_cons, b], .cons r c⟩
theorem kp_types {M : Model} {h : Heap} {ks : List Key} {fs : List Value} (r : Vals (ks.map kV) fs) (one : (∀ k ∈ ks, ∃ i, k = .inl i) ∨ ∀ k ∈ ks, ∃ s, k = .inr s) : ∃ T : Value, (T = .type "int" ∨ T = .type "str") ∧ ∀ v ∈ fs, PySem.W.Looks M h (typeOf v) T := by
  rcases one with one | one
  · refine ⟨.type "int", .inl rfl, ?_⟩
    induction ks generalizing fs with
    | nil => cases r; exact fun v hv => by cases hv
    | cons k ks ih =>
      cases r with
      | cons r rt =>
        obtain ⟨i, rfl⟩ := one k List.mem_cons_self
        obtain ⟨t, rfl⟩ := r
        intro v hv
        rcases List.mem_cons.mp hv with e | hv
        · rw [e]; exact PySem.W.Looks.now
        · exact ih rt (fun k hk => one k (List.mem_cons_of_mem _ hk)) v hv
  · refine ⟨.type "str", .inr rfl, ?_⟩
    induction ks generalizing fs with
    | nil => cases r; exact fun v hv => by cases hv
    | cons k ks ih =>
      cases r with
      | cons r rt =>
        obtain ⟨i, rfl⟩ := one k List.mem_cons_self
        obtain ⟨t, rfl⟩ := r
        intro v hv
        rcases List.mem_cons.mp hv with e | hv
        · rw [e]; exact PySem.W.Looks.now
        · exact ih rt (fun k hk => one k (List.mem_cons_of_mem _ hk)) v hv
theorem kp_sortable {a : Addr} {vs : List Value} {k : Value → Key} (h0 : 0 < vs.length) (hp : ∀ v ∈ vs, IsKP s.heap v (k v)) (inj : ∀ v ∈ vs, ∀ u ∈ vs, k v = k u → v = u) (one : oneKind (vs.map k) = true) (ha : ∀ o, s.heap.get? a = some o → o.cls ≠ .type "tuple") :
    SortableO prog w A s a vs fun v u => ltKey (k v) (k u) := by
  intro h' keep
  have hp' : ∀ v ∈ vs, IsKP h' v (k v) := fun v hm => (hp v hm).keeps fun b o e c => keep b o (fun z => by subst z; exact ha o e c) e
  obtain ⟨fs, h1, h2, h3⟩ := kp_firsts hp'
  refine ⟨tuples' true, fun Q E hq => ?_, kp_cmp (s := { s with heap := h' }) hp' inj one⟩
  have h3' : Vals ((vs.map k).map kV) fs := by rw [List.map_map]; exact h3
  obtain ⟨T, hT, hl⟩ := kp_types (M := model prog w) (h := h') h3' (one_split one)
  refine PySem.W.kat_kind (T := T) h1 (by omega) hl (by rcases hT with e | e <;> rw [e] <;> rfl) ?_
  rcases hT with e | e
  · rw [e]; exact hq
  · rw [e]; exact hq
end
end SP

/-! ### sorted of a list of pairs, the keys all different -/
def pairD (p : Key × D) : D := .tup [keyV p.1, p.2]
def rSortPD : List D → Gp → KDs → Prop := fun ds G Q => match ds with
  | [x] => ∃ ps : List (Key × D), asD G x = .lst (ps.map pairD) ∧ (ps.map (·.1)).Nodup ∧ oneKind (ps.map (·.1)) = true ∧ Q ((srtBy (·.1) ps).map pairD) G
  | _ => False
structure Tri where
  u : Value
  x : V
  p : Key × D
def TriOk (K : PySem.W.Frag) (H : Hp) (t : Tri) : Prop := RelV t.x t.u ∧ ∃ a key rest, t.x = .ref a ∧ SqT K H a [key, rest] ∧ key = kV t.p.1 ∧ okK t.p.1 ∧ RD K H rest t.p.2
theorem tris_of {K : PySem.W.Frag} {H : Hp} : ∀ (ps : List (Key × D)) {ws : List V} {us : List Value}, Vals ws us → RDs K H ws (ps.map pairD) → ∃ ts : List Tri, ts.map (·.u) = us ∧ ts.map (·.x) = ws ∧ ts.map (·.p) = ps ∧ ∀ t ∈ ts, TriOk K H t
  | [], ws, us, rv, r => by
    cases r
    cases rv
    exact ⟨[], rfl, rfl, rfl, fun t h => by cases h⟩
  | p :: ps, ws, us, rv, r => by
    rw [List.map_cons] at r
    cases r with
    | cons r rt =>
      cases rv with
      | cons v vt =>
        obtain ⟨ts, e1, e2, e3, ok⟩ := tris_of ps vt rt
        unfold pairD at r
        cases r with
        | tup hq rs =>
          cases rs with
          | cons rk rs =>
            cases rs with
            | cons rv rn =>
              cases rn
              have hk : keyD (keyV p.1) = some p.1 := by cases p.1 <;> rfl
              refine ⟨⟨_, _, p⟩ :: ts, by rw [List.map_cons, e1], by rw [List.map_cons, e2], by rw [List.map_cons, e3], fun t ht => ?_⟩
              rcases List.mem_cons.mp ht with e | ht
              · rw [e]
                exact ⟨v, _, _, _, rfl, hq, keyD_of rk hk, okK_of rk hk, rv⟩
              · exact ok t ht
theorem tri_vals {K : PySem.W.Frag} {H : Hp} : ∀ {ts : List Tri}, (∀ t ∈ ts, TriOk K H t) → Vals (ts.map (·.x)) (ts.map (·.u))
  | [], _ => .nil
  | t :: ts, h => .cons (h t List.mem_cons_self).1 (tri_vals fun t ht => h t (List.mem_cons_of_mem _ ht))
theorem tri_rds {K : PySem.W.Frag} {H : Hp} : ∀ {ts : List Tri}, (∀ t ∈ ts, TriOk K H t) → RDs K H (ts.map (·.x)) ((ts.map (·.p)).map pairD)
  | [], _ => .nil
  | t :: ts, h => by
    obtain ⟨_, a, key, rest, ex, hq, ek, ok, rr⟩ := h t List.mem_cons_self
    rw [List.map_cons, List.map_cons, List.map_cons]
    refine .cons ?_ (tri_rds fun t ht => h t (List.mem_cons_of_mem _ ht))
    rw [ex]
    subst ek
    exact .tup hq (.cons (rd_key ok) (.cons rr .nil))
noncomputable def keyAt (h : Heap) (v : Value) : Key := Classical.epsilon fun k => SP.IsKP h v k
theorem kV_inj {k j : Key} {u : Value} (h1 : RelV (kV k) u) (h2 : RelV (kV j) u) : k = j := by
  cases k with
  | inl i => cases j with
    | inl j =>
      obtain ⟨t, e⟩ := h1
      obtain ⟨t', e'⟩ := h2
      rw [e] at e'; cases e'; rfl
    | inr s =>
      obtain ⟨t, e⟩ := h1
      obtain ⟨t', e'⟩ := h2
      rw [e] at e'; cases e'
  | inr s => cases j with
    | inl j =>
      obtain ⟨t, e⟩ := h1
      obtain ⟨t', e'⟩ := h2
      rw [e] at e'; cases e'
    | inr z =>
      obtain ⟨t, e⟩ := h1
      obtain ⟨t', e'⟩ := h2
      rw [e] at e'; cases e'; rfl
theorem keyAt_of {h : Heap} {v : Value} {k : Key} (x : SP.IsKP h v k) : SP.IsKP h v (keyAt h v) ∧ keyAt h v = k := by
  have y : SP.IsKP h v (keyAt h v) := Classical.epsilon_spec (p := fun k => SP.IsKP h v k) ⟨k, x⟩
  refine ⟨y, ?_⟩
  obtain ⟨a, o, key, rest, n, e, ho, hc, hd, r⟩ := x
  obtain ⟨a', o', key', rest', n', e', ho', hc', hd', r'⟩ := y
  rw [e] at e'; cases e'
  rw [ho] at ho'; cases ho'
  rw [hd] at hd'; cases hd'
  exact kV_inj r' r
/-- what comes out of the sort -/
theorem tri_out {K : PySem.W.Frag} {H : Hp} {h : Heap} {ts : List Tri} {out : List Value} (kk : ∀ t ∈ ts, keyAt h t.u = t.p.1) (nd : ((ts.map (·.p)).map (·.1)).Nodup)
    (hs : SrtO.Srtd (fun v u => ltKey (keyAt h v) (keyAt h u)) out) (hp : out.Perm (ts.map (·.u))) : ∃ ts' : List Tri, (∀ t ∈ ts', t ∈ ts) ∧ ts'.map (·.u) = out ∧ ts'.map (·.p) = srtBy (·.1) (ts.map (·.p)) := by
  obtain ⟨ts', p, e⟩ := perm_lift Tri.u hp ts rfl
  refine ⟨ts', fun t ht => p.mem_iff.mp ht, e, ?_⟩
  refine srtBy_uniq (fun p : Key × D => p.1) ?_ (p.map (·.p)) (inj_nodup (fun p : Key × D => p.1) nd)
  rw [← e] at hs
  have hs' : (ts'.map Tri.u).Pairwise (fun v u => ltKey (keyAt h u) (keyAt h v) = false) := hs
  rw [List.pairwise_map] at hs'
  show (ts'.map (·.p)).Pairwise _
  rw [List.pairwise_map]
  refine List.Pairwise.imp_of_mem (fun {a b} ha hb q => ?_) hs'
  rw [kk a (p.mem_iff.mp ha), kk b (p.mem_iff.mp hb)] at q
  exact q
section
variable {X : Cx}
theorem tri_kp {pins : List (Addr × Obj)} {σ : L2.St} {H : Hp} {s : Shared} (I : Inv X pins σ H s) {t : Tri} (h : TriOk X.K H t) : SP.IsKP s.heap t.u t.p.1 := by
  obtain ⟨r, a, key, rest, ex, hq, ek, _, _⟩ := h
  rw [ex] at r
  have eu : t.u = Value.ref a := r
  rw [eu]
  subst ek
  obtain ⟨its, rv, ⟨o, ho, hc, n, hd⟩, _⟩ := I.tuple hq
  cases rv with
  | cons r1 rt =>
    cases rt with
    | cons r2 rt =>
      cases rt
      exact ⟨a, o, _, _, n, rfl, ho, hc, hd, r1⟩
/-- sorted(xs), xs a list of pairs, the keys all different -/
def rSortPV (K : PySem.W.Frag) : List V → Hp → VK → Prop := fun vs H Q => ∃ (a : Addr) (xs : List V) (ps : List (Key × D)), vs = [V.ref a] ∧ SqL K H a xs ∧ RDs K H xs (ps.map pairD) ∧ (ps.map (·.1)).Nodup ∧ oneKind (ps.map (·.1)) = true ∧
  ∀ ys p, RDs K H ys ((srtBy (·.1) ps).map pairD) → H p = none → Q (.ref p) (upd H p (.lst ys))
theorem cr_sortP : CallR X (.builtin "sorted") (rSortPV X.K) := by
  intro pins s σ H vs us Q I r h
  obtain ⟨a, xs, ps, rfl, hs, hr, nd, one, q⟩ := h
  obtain ⟨its, rv, hl, hz⟩ := I.list hs
  obtain ⟨u, rfl, ru⟩ := vals1 r
  obtain rfl : u = Value.ref a := ru
  obtain ⟨ts, e1, e2, e3, ok⟩ := tris_of ps rv hr
  have kp : ∀ t ∈ ts, SP.IsKP s.heap t.u t.p.1 := fun t ht => tri_kp I (ok t ht)
  have kk : ∀ t ∈ ts, keyAt s.heap t.u = t.p.1 := fun t ht => (keyAt_of (kp t ht)).2
  have km : its.map (keyAt s.heap) = ps.map (·.1) := by
    rw [← e1, ← e3, List.map_map, List.map_map]
    exact List.map_congr_left fun t ht => kk t ht
  have hp : ∀ v ∈ its, SP.IsKP s.heap v (keyAt s.heap v) := fun v hv => by
    rw [← e1] at hv
    obtain ⟨t, ht, rfl⟩ := List.mem_map.mp hv
    exact (keyAt_of (kp t ht)).1
  have inj : ∀ v ∈ its, ∀ u ∈ its, keyAt s.heap v = keyAt s.heap u → v = u := inj_nodup (keyAt s.heap) (by rw [km]; exact nd)
  refine SrtO.sorted_ord (SP.swo_key (keyAt s.heap)) hl.isList (by rw [← rv.length]; exact hz) (fun h2 h₁ a' ha' kk' => ?_) fun out h1 h2 => ?_
  · refine SP.kp_sortable (s := { s with heap := h₁ }) (by omega) (fun v hm => (hp v hm).keeps fun b o e _ => (kk' b o e).2) inj (by rw [km]; exact one) fun o e => ?_
    have e' : some o = some (seqObj "list" its.toArray 0) := e.symm.trans ha'
    cases e'
    intro c
    exact absurd (Value.type.inj c) (by decide)
  · obtain ⟨ep, he'⟩ := PyProof.Rows.sortedAll_at s.heap its out.toArray
    obtain ⟨ts', m, f1, f2⟩ := tri_out (K := X.K) (H := H) kk (by rw [e3]; exact nd) h1 (by rw [e1]; exact h2.perm)
    rw [e3] at f2
    have ok' : ∀ t ∈ ts', TriOk X.K H t := fun t ht => ok t (m t ht)
    have rv' : Vals (ts'.map (·.x)) out := by rw [← f1]; exact tri_vals ok'
    have hlen : (ts'.map (·.x)).length ≤ sizeLine := by rw [rv'.length, h2.perm.length_eq, ← rv.length]; exact hz
    have rd' := tri_rds ok'
    rw [f2] at rd'
    exact ⟨.ref _, upd H (s.heap.objs.size + 1) (.lst (ts'.map (·.x))), I.laid (t' := s.toks) (fun _ _ => PyProof.Rows.sortedAll_old) (Nat.le_succ _) ⟨hlen, out, ep, rv', he'⟩, rfl, q _ _ rd' (I.hok.fresh (Nat.le_succ _))⟩
end
theorem ab_sortP {K : PySem.W.Frag} : AbCL K (rSortPV K) rSortPD := by
  intro G H vs ds Qd Q g r h k
  unfold rSortPD at h
  split at h
  · obtain ⟨ps, e, nd, one, q⟩ := h
    obtain ⟨a, ws, rfl, hq, hv⟩ := one_list g r e
    exact ⟨a, ws, ps, rfl, hq, hv, nd, one, fun ys p hr hp => k p _ _ _ _ (.new g hp) (g.none_of hp) hp upd_same (hr.sb (sb_new hp)) q⟩
  · exact h.elim
end Dl

end
section
set_option maxHeartbeats 4000000
namespace Dl
open PySem PySem.Spec PyProof.Rows L2 SeqAt
open PySem.Sem (wp)
section
variable {P : Program} {w : World} {A : Around} {E : Value → Shared → Prop} {s : Shared}
/-- set(xs) of a list of ints (the list's turn of HandS.SetFor's rule for tuples) -/
theorem call_set_listI {l : Addr} {items : Array Value} (ns : List Int) {Q : Value → Shared → Prop} (hh : A.handled = none) (hl : s.heap.IsList l items) (hit : IntsAre items.toList ns) (hb : ns.length + 1 < scanBound)
    (h : ∀ (h' : Heap) (tk c : Nat), SetR w h' s.heap.objs.size (fun j => decide (j ∈ ns)) c → c ≤ ns.length → (∀ b o, s.heap.get? b = some o → h'.get? b = some o) → Q (.ref s.heap.objs.size) { s with heap := h', toks := tk }) :
    wpAny (model P w) A (call (.type "set") [.ref l]) Q E s := by
  have hisz : items.size = ns.length := by
    have q := IntsAre.length hit
    rw [Array.length_toList] at q
    exact q
  obtain ⟨c, tl, hmro⟩ := F.called_set.mro
  have hmade := F.called_set.made
  have hsub := F.called_set.sub
  refine wpAny_call (codeAny_of_tree ?_)
  show wpAny _ _ (callAny (.type "set") _) _ _ _
  refine wpAny_pure ⟨Code.quiet_builtin _ (by decide +kernel), codeAny_builtin F.entry_type_call ?_⟩
  rw [Around.under_plain (weight_type_call_type "set" [.ref l] []) rfl]
  have h1 := F.called_set.notType
  have h2 := F.called_set.canCreate
  have hct := F.typeCall_set_1 (.ref l)
  repeat (any_goals (first | assumption | wp_step))

  refine codeAny_mono (code_set_led1 (.ref l) (E := E) (Q₁ := fun obj s₁ => obj = .ref s.heap.objs.size ∧ s₁ = { s with heap := s.heap.push { cls := .type "set", dict := none, data := .set #[] 0 (.fresh 0 0 (!w.params.followText "set-order")) } }) ⟨rfl, rfl⟩) fun r s₁ hr => ?_
  cases r with
  | error e => exact hr
  | ok fl =>
    cases fl with
    | ret obj =>
      obtain ⟨rfl, rfl⟩ := hr
      have hS : (s.heap.push { cls := .type "set", dict := none, data := .set #[] 0 (.fresh 0 0 (!w.params.followText "set-order")) }).get? s.heap.objs.size = some { cls := .type "set", dict := none, data := .set #[] 0 (.fresh 0 0 (!w.params.followText "set-order")) } := Heap.get?_push_size _ rfl
      have hT : Shared.TypeIs { s with heap := s.heap.push { cls := .type "set", dict := none, data := .set #[] 0 (.fresh 0 0 (!w.params.followText "set-order")) } } (.ref s.heap.objs.size) "set" := ⟨_, hS, rfl⟩
      have hli := F.called_set.init.lookup
      have hbi := F.called_set.init.bind (.ref s.heap.objs.size)
      repeat (any_goals (first | assumption | wp_step))

      refine codeAny_mono (codeAny_call_builtin (R := wants (fun r s₂ => r = .none ∧ ∃ h' tk c, s₂ = { s with heap := h', toks := tk } ∧ SetR w h' s.heap.objs.size (fun j => decide (j ∈ ns)) c ∧ c ≤ ns.length ∧
          (∀ b o, s.heap.get? b = some o → h'.get? b = some o)) E) F.called_set.init.plain F.entry_set_init (check_set_init_1 hT ?_)) fun r₂ s₂ hr₂ => ?_
      · obtain ⟨ol, hol, hcl, nl, hdl⟩ := hl
        obtain ⟨ocls, odict, odata, oslots⟩ := ol
        simp only at hcl hdl
        subst hcl; subst hdl
        have hol' : (s.heap.push { cls := .type "set", dict := none, data := .set #[] 0 (.fresh 0 0 (!w.params.followText "set-order")) }).get? l = some { cls := .type "list", dict := odict, data := .seq items nl, slots := oslots } := Heap.get?_push_of_some _ hol
        have hsls := F.sub_list_set
        have hslf := F.sub_list_frozenset
        have hne : (Value.type "list" == Value.type "dict") = false := by decide
        have hl1 : (s.heap.push { cls := .type "set", dict := none, data := .set #[] 0 (.fresh 0 0 (!w.params.followText "set-order")) }).IsList l items := ⟨_, hol', rfl, nl, rfl⟩
        unfold Builtin.«set.__init__» noKeywords Builtin.Frozenset.updateFrom
        generalize hPI : pyIter = PI
        wp_walk
        subst hPI

        refine wpAny_pyIter_list hl1 ?_
        refine wpAny_bind (wpAny_runValue ?_)
        have hlS : l < s.heap.objs.size := Heap.lt_size hol
        have hh3 : A.in1.in1.in1.handled = none := by simp [hh]
        have hz1 : (s.heap.push { cls := .type "set", dict := none, data := .set #[] 0 (.fresh 0 0 (!w.params.followText "set-order")) }).objs.size = s.heap.objs.size + 1 := Heap.size_push ..
        have hneI : l ≠ (s.heap.push { cls := .type "set", dict := none, data := .set #[] 0 (.fresh 0 0 (!w.params.followText "set-order")) }).objs.size := by
          rw [Heap.size_push]; exact Nat.ne_of_lt (Nat.lt_succ_of_lt hlS)
        have hSf : s.heap.objs.size ∉ [(s.heap.push { cls := .type "set", dict := none, data := .set #[] 0 (.fresh 0 0 (!w.params.followText "set-order")) }).objs.size, l] := by
          rw [Heap.size_push]; simp only [List.mem_cons, List.mem_singleton, List.not_mem_nil, or_false, not_or]
          exact ⟨Nat.ne_of_lt (Nat.lt_succ_self _), Nat.ne_of_gt hlS⟩
        have hval : ∀ (i : Nat) (v : Value), items[i]? = some v → ∃ k t, ns[i]? = some k ∧ v = .int k t := fun i v hv => by
          have hi : i < ns.length := by rw [← hisz]; exact (Array.getElem?_eq_some_iff.mp hv).1
          obtain ⟨t, e⟩ := PyProof.Rows.IntsAre.int_at hit i v (by rw [Array.getElem?_toList]; exact hv)
          refine ⟨ns[i], t, List.getElem?_eq_getElem hi, ?_⟩
          rw [e, List.getD_eq_getElem?_getD, List.getElem?_eq_getElem hi] <;> rfl
        refine set_update_ints ((Walks.list hh3 _ l hneI items).toS) s.heap.objs.size
          hSf ns hisz hb hval (items.size - 0) 0 _ (by omega) (Nat.zero_le _)
          ⟨⟨_, Heap.get?_push_size _ rfl, rfl, rfl⟩, (hl1.push _)⟩ ?hS0 ?hR
        case hS0 =>
          have hget : ((s.heap.push { cls := .type "set", dict := none, data := .set #[] 0 (.fresh 0 0 (!w.params.followText "set-order")) }).push { cls := .type "list_iterator", data := .fields #[.ref l, .int 0 0] }).get? s.heap.objs.size
              = some { cls := .type "set", dict := none, data := .set #[] 0 (.fresh 0 0 (!w.params.followText "set-order")) } := Heap.get?_push_of_some _ hS
          exact ⟨0, Nat.le_refl 0, setR_new_at hget⟩
        case hR =>
          intro s' c' hm hc' hS'
          obtain ⟨h', g2, d', tk', os'⟩ := s'
          have eg : g2 = s.gens := hm.gens
          have ed : d' = s.drawn := hm.drawn
          have eo : os' = s.os := hm.os
          subst eg; subst ed; subst eo
          show wpAny _ _ _ _ _ _
          refine wpAny_pure ?_
          show wpAny _ _ (ret Value.none) _ _ _
          rw [hisz] at hc'
          refine wpAny_pure ⟨rfl, h', tk', c', rfl, hS', hc', fun b o e => ?_⟩
          have hb0 : b < s.heap.objs.size := Heap.lt_size e
          have hb1 : b ≠ s.heap.objs.size := Nat.ne_of_lt hb0
          have hb2 : b ≠ (s.heap.push { cls := .type "set", dict := none, data := .set #[] 0 (.fresh 0 0 (!w.params.followText "set-order")) }).objs.size := by
            rw [Heap.size_push]; exact Nat.ne_of_lt (Nat.lt_succ_of_lt hb0)
          exact hm.heap b o (by simp only [List.mem_cons, List.mem_singleton, List.not_mem_nil, or_false, not_or]; exact ⟨hb1, hb2⟩) (Heap.get?_push_of_some _ (Heap.get?_push_of_some _ e))

      · cases r₂ with
        | error e => exact hr₂
        | ok fl₂ =>
          cases fl₂ with
          | ret r =>
            obtain ⟨rfl, h', tk, c', rfl, hS', hc', hk'⟩ := hr₂
            repeat (any_goals (first | assumption | wp_step))
            exact h _ _ _ hS' hc' hk'
          | _ => exact hr₂.elim
    | _ => exact hr.elim

end
end Dl

end
section
set_option maxHeartbeats 4000000
namespace Dl
open PySem PySem.Spec PyProof.Rows L2
/-! ### growth -/
theorem Go.grow {K : PySem.W.Frag} {G : Gp} {H H' : Hp} (g : Gd K G H) (k : ∀ a u, H a = some u → H' a = some u) : Go K G H G H' := by
  refine ⟨fun a u e _ => k a u e, fun _ _ e => e, fun a e => ?_, fun a m e => ?_⟩
  · cases q : H a with
    | none => rfl
    | some u => rw [k a u q] at e; cases e
  · have s : Sb K H H' := ⟨fun a xs e => k a _ e, fun a o u e => k a _ e⟩
    obtain ⟨u, q, _⟩ := (g a m e).some
    exact (g a m e).sb s (by rw [q, k a u q])
/-! ### sorted of a dict, of ints, of texts -/
theorem risingS_srtd : ∀ (ss : List Str) (p : Str), risingS p ss = true → (p :: ss).Pairwise fun a b => ltKey (.inr b) (.inr a) = false
  | [], p, _ => List.pairwise_singleton _ _
  | x :: r, p, h => by
    have h' : (ltCps x.cps.toList p.cps.toList = false) ∧ risingS x r = true := by
      simp only [risingS] at h
      simpa using h
    have ih := risingS_srtd r x h'.2
    have e : ltKey (.inr x) (.inr p) = false := by
      show decide (x.cps.toList < p.cps.toList) = false
      rw [← PyProof.Rows.ltCps_eq]; exact h'.1
    refine List.pairwise_cons.mpr ⟨fun y hy => ?_, ih⟩
    rcases List.mem_cons.mp hy with z | hy
    · rw [z]; exact e
    · exact ltKey_tr ((List.pairwise_cons.mp ih).1 y hy) e
theorem sortedS_srtd {ys : List Str} (h : sortedS ys = true) : SrtdBy Sum.inr ys := by
  cases ys with
  | nil => exact List.Pairwise.nil
  | cons x r => exact risingS_srtd r x h
theorem ints_srtd {ns : List Int} (h : ns.Pairwise (· ≤ ·)) : SrtdBy Sum.inl ns := h.imp fun {a b} q => by
  show decide (b < a) = false
  exact decide_eq_false (by omega)

@[simp] def rSorted : List D → Gp → KDs → Prop := fun ds G Q => match ds with
  | [x] => (match asD G x with
    | .dic ks => oneKind (ks.map (·.1)) = true ∧ ks.length < 64 ∧ Q ((srtBy id (ks.map (·.1))).map keyV) G
    | .lst es => (es.all isIntD = true ∧ Q ((srtBy Sum.inl (es.map asInt)).map D.int) G) ∨ (es.all isStrD = true ∧ es.length < 64 ∧ Q ((srtBy Sum.inr (es.map asStr)).map D.str) G) ∨
      ∃ ps : List (Key × D), es = ps.map pairD ∧ (ps.map (·.1)).Nodup ∧ oneKind (ps.map (·.1)) = true ∧ Q ((srtBy (·.1) ps).map pairD) G
    | _ => False)
  | _ => False
def rSortedV (K : PySem.W.Frag) : List V → Hp → VK → Prop := fun xs H Q => rSortedI K xs H Q ∨ rSortedS K xs H Q ∨ rSortPV K xs H Q ∨
  (∃ (a : Addr) (kvs : List (Key × V)) (ks : List Int), xs = [.ref a] ∧ Rd H a (.dK kvs) ∧ kvs.map (·.1) = ks.map Sum.inl ∧ ks.length < 64 ∧
    ∀ (ys : List Int) (p : Addr), ys.Perm ks → ys.Pairwise (· ≤ ·) → H p = none → Q (.ref p) (upd H p (.lst (ys.map V.int)))) ∨
  (∃ (a : Addr) (kvs : List (Key × V)) (ks : List Str), xs = [.ref a] ∧ Rd H a (.dK kvs) ∧ kvs.map (·.1) = ks.map Sum.inr ∧ ks.length < 64 ∧
    ∀ ys p, ys.Perm ks → sortedS ys = true → H p = none → Q (.ref p) (upd H p (.lst (ys.map V.str))))
theorem cr_sortedV {X : Cx} (hc : X.calm = true) : CallR X (.builtin "sorted") (rSortedV X.K) := by
  intro pins s σ H xs us Q I rv q
  rcases q with q | q | q | q | q
  · exact cr_sortedI pins s σ H xs us Q I rv q
  · exact cr_sortedS pins s σ H xs us Q I rv q
  · exact cr_sortP pins s σ H xs us Q I rv q
  · exact call_sortedDI hc pins s σ H xs us Q I rv q
  · exact call_sortedD hc pins s σ H xs us Q I rv q
theorem lefts {l : List Key} (h : ∀ k ∈ l, ∃ i, k = Sum.inl i) : ∃ js : List Int, l = js.map Sum.inl := by
  induction l with
  | nil => exact ⟨[], rfl⟩
  | cons k l ih =>
    obtain ⟨i, rfl⟩ := h k List.mem_cons_self
    obtain ⟨js, rfl⟩ := ih fun k hk => h k (List.mem_cons_of_mem _ hk)
    exact ⟨i :: js, rfl⟩
theorem rights {l : List Key} (h : ∀ k ∈ l, ∃ i, k = Sum.inr i) : ∃ js : List Str, l = js.map Sum.inr := by
  induction l with
  | nil => exact ⟨[], rfl⟩
  | cons k l ih =>
    obtain ⟨i, rfl⟩ := h k List.mem_cons_self
    obtain ⟨js, rfl⟩ := ih fun k hk => h k (List.mem_cons_of_mem _ hk)
    exact ⟨i :: js, rfl⟩
theorem RDk.keys {K : PySem.W.Frag} {H : Hp} : ∀ {vs : List (Key × V)} {ks : List (Key × D)}, RDk K H vs ks → vs.map (·.1) = ks.map (·.1) ∧ ∀ k ∈ ks.map (·.1), okK k
  | _, _, .nil => ⟨rfl, fun k h => by cases h⟩
  | _, _, .cons o _ t => by
    obtain ⟨a, b⟩ := RDk.keys t
    refine ⟨by rw [List.map_cons, List.map_cons, a], fun k h => ?_⟩
    rcases List.mem_cons.mp h with e | h
    · rw [e]; exact o
    · exact b k h
theorem ab_sorted {K : PySem.W.Frag} : AbCL K (rSortedV K) rSorted := by
  intro G H vs ds Qd Q g r h k
  unfold rSorted at h
  split at h
  · rename_i x
    split at h
    · rename_i ks e
      obtain ⟨one, z, q⟩ := h
      have h' : ∃ a ws, vs = [V.ref a] ∧ Rd H a (.dK ws) ∧ RDk K H ws ks := by
        cases r with
        | cons r rt =>
          cases rt
          obtain ⟨a, ws, rfl, hd, hv⟩ := dk_as g r e
          exact ⟨a, ws, rfl, hd, hv⟩
      obtain ⟨a, ws, rfl, hd, hv⟩ := h'
      obtain ⟨ek, ok⟩ := hv.keys
      rcases SP.one_split one with o | o
      · obtain ⟨js, ej⟩ := lefts o
        have hl : js.length = ks.length := by
          have := congrArg List.length ej
          simpa using this.symm
        refine .inr (.inr (.inr (.inl ⟨a, ws, js, rfl, hd, by rw [ek, ej], by omega, fun ys p hp hs hn => ?_⟩)))
        refine k p _ _ _ _ (.new g hn) (g.none_of hn) hn upd_same ?_ q
        have u : ys.map Sum.inl = srtBy id (ks.map (·.1)) := by
          refine srtBy_uniq id ?_ ?_ fun a _ b _ e => e
          · show (ys.map Sum.inl).Pairwise _
            rw [List.pairwise_map]
            exact ints_srtd hs
          · rw [ej]; exact hp.map _
        rw [← u, List.map_map]
        exact rds_ints ys
      · obtain ⟨js, ej⟩ := rights o
        have hl : js.length = ks.length := by
          have := congrArg List.length ej
          simpa using this.symm
        refine .inr (.inr (.inr (.inr ⟨a, ws, js, rfl, hd, by rw [ek, ej], by omega, fun ys p hp hs hn => ?_⟩)))
        refine k p _ _ _ _ (.new g hn) (g.none_of hn) hn upd_same ?_ q
        have u : ys.map Sum.inr = srtBy id (ks.map (·.1)) := by
          refine srtBy_uniq id ?_ ?_ fun a _ b _ e => e
          · show (ys.map Sum.inr).Pairwise _
            rw [List.pairwise_map]
            exact sortedS_srtd hs
          · rw [ej]; exact hp.map _
        rw [← u, List.map_map]
        refine rds_strs ys fun s hs' => ?_
        have m : (Sum.inr s : Key) ∈ ks.map (·.1) := by
          rw [ej]
          exact List.mem_map_of_mem (hp.mem_iff.mp hs')
        exact ok _ m
    · rename_i es e
      obtain ⟨a, ws, rfl, hq, hv⟩ := one_list g r e
      rcases h with ⟨hb, q⟩ | ⟨hb, z, q⟩ | ⟨ps, ep, nd, one, q⟩
      · have e2 := ints_of hv hb
        subst e2
        refine .inl ⟨a, es.map asInt, rfl, hq, fun ns p h1 h2 hp => ?_⟩
        have u : ns = srtBy Sum.inl (es.map asInt) := srtBy_uniq Sum.inl (ints_srtd h2) h1 fun a _ b _ e => Sum.inl.inj e
        refine k p _ _ _ _ (.new g hp) (g.none_of hp) hp upd_same ?_ q
        rw [← u]
        exact rds_ints ns
      · obtain ⟨e2, ok⟩ := strs_of hv hb
        subst e2
        refine .inr (.inl ⟨a, es.map asStr, rfl, hq, by rw [List.length_map]; exact z, fun ns p h1 h2 hp => ?_⟩)
        have u : ns = srtBy Sum.inr (es.map asStr) := srtBy_uniq Sum.inr (sortedS_srtd h2) h1 fun a _ b _ e => Sum.inr.inj e
        refine k p _ _ _ _ (.new g hp) (g.none_of hp) hp upd_same ?_ q
        rw [← u]
        exact rds_strs ns fun s hs => ok s (h1.mem_iff.mp hs)
      · subst ep
        exact .inr (.inr (.inl ⟨a, ws, ps, rfl, hq, hv, nd, one, fun ys p hr hp => k p _ _ _ _ (.new g hp) (g.none_of hp) hp upd_same (hr.sb (sb_new hp)) q⟩))
    · exact h.elim
  · exact h.elim

/-! ### list(x): list, tuple, dict -/
@[simp] def rListA : List D → Gp → KDs → Prop := fun ds G Q => match ds with
  | [x] => (match asD G x with
    | .lst es => Q es G
    | .tup es => Q es G
    | .dic ks => Q (ks.map fun p => keyV p.1) G
    | _ => False)
  | _ => False
theorem rds_keys {K : PySem.W.Frag} {H : Hp} : ∀ {vs : List (Key × V)} {ks : List (Key × D)}, RDk K H vs ks → RDs K H (vs.map fun kv => kV kv.1) (ks.map fun p => keyV p.1)
  | _, _, .nil => .nil
  | _, _, .cons o _ t => .cons (rd_key o) (rds_keys t)
theorem cr_listA {X : Cx} (hc : X.calm = true) : CallR X (.type "list") (fun xs H Q => (∃ p ys, xs = [.ref p] ∧ (SqL X.K H p ys ∨ SqT X.K H p ys) ∧ ∀ l, H l = none → Q (.ref l) (upd H l (.lst ys))) ∨ ∃ (a : Addr) (kvs : List (Key × V)), xs = [.ref a] ∧ Rd H a (.dK kvs) ∧ ∀ p, H p = none → Q (.ref p) (upd H p (.lst (kvs.map fun kv => kV kv.1)))) := cr_or call_list_of (call_listD hc)
theorem ab_listA {K : PySem.W.Frag} : AbCL K (fun xs H Q => (∃ p ys, xs = [.ref p] ∧ (SqL K H p ys ∨ SqT K H p ys) ∧ ∀ l, H l = none → Q (.ref l) (upd H l (.lst ys))) ∨ ∃ (a : Addr) (kvs : List (Key × V)), xs = [.ref a] ∧ Rd H a (.dK kvs) ∧ ∀ p, H p = none → Q (.ref p) (upd H p (.lst (kvs.map fun kv => kV kv.1)))) rListA := by
  intro G H vs ds Qd Q g r h k
  unfold rListA at h
  split at h
  · cases r with
    | cons r rt =>
      cases rt
      split at h
      · rename_i es e
        obtain ⟨a, ws, rfl, hq, hv⟩ := sq_as g r e
        exact .inl ⟨a, ws, rfl, .inl hq, fun l hl => k l ws es _ _ (.new g hl) (g.none_of hl) hl upd_same (hv.sb (sb_new hl)) h⟩
      · rename_i es e
        obtain ⟨a, ws, rfl, hq, hv⟩ := tup_as r e
        exact .inl ⟨a, ws, rfl, .inr hq, fun l hl => k l ws es _ _ (.new g hl) (g.none_of hl) hl upd_same (hv.sb (sb_new hl)) h⟩
      · rename_i ks e
        obtain ⟨a, ws, rfl, hd, hv⟩ := dk_as g r e
        exact .inr ⟨a, ws, rfl, hd, fun l hl => k l _ _ _ _ (.new g hl) (g.none_of hl) hl upd_same ((rds_keys hv).sb (sb_new hl)) h⟩
      · exact h.elim
  · exact h.elim
end Dl

end
section
set_option maxHeartbeats 4000000
namespace Dl
open PySem PySem.Spec PyProof.Rows L2 LiI
section
variable {X : Cx} {e : Expr} {te : TE} {p apos cpos pos : Pos}
/-- the dict's items as new tuples -/
def rItemsV (K : PySem.W.Frag) (f : List (Key × D) → List (Key × D)) (C : List (Key × D) → Prop) : V → Hp → VK → Prop := fun x H Q => ∃ (d : Addr) (kvs : List (Key × V)) (ks : List (Key × D)), x = .ref d ∧ Rd H d (.dK kvs) ∧ RDk K H kvs ks ∧ C ks ∧
  ∀ (H' : Hp) (p : Addr) (ys : List V), (∀ b o, H b = some o → H' b = some o) → H p = none → H' p = some (.lst ys) → RDs K H' ys ((f ks).map pairD) → Q (.ref p) H'
theorem pairs_rds {K : PySem.W.Frag} {H H' : Hp} (s : Sb K H H') : ∀ {ts : List Addr} {kvs : List (Key × V)} {ks : List (Key × D)}, Paired (fun (t : Addr) (q : Key × V) => H' t = some (.tup [kV q.1, q.2])) ts kvs → RDk K H kvs ks → RDs K H' (ts.map V.ref) (ks.map pairD)
  | [], _, _, .nil, r => by cases r; exact .nil
  | t :: ts, (k, v) :: kvs, _, .cons h pr, r => by
    cases r with
    | cons o rv rt => exact .cons (.tup (.of h) (.cons (rd_key o) (.cons (rv.sb s) .nil))) (pairs_rds s pr rt)
theorem pe_listItemsA (hc : X.calm = true) (he : PE X e te) (hm : X.mg "list" = none) (hg : Gl X "list" := by rfl) (hv : bootBuiltins "list" = some (.type "list") := by decide +kernel) (hbase : attributeBase e "items" X.env (eval e X.env) = eval e X.env := by rfl) (hline : (apos.endLine == cpos.line) = true := by rfl)
    (hs : starEach [.Call (.Attribute e "items" apos) [] [] cpos] X.env = (false, eval (.Call (.Attribute e "items" apos) [] [] cpos) X.env) :: starEach [] X.env := by rfl) :
    PE X (.Call (.Name "list" p) [.Call (.Attribute e "items" apos) [] [] cpos] [] pos) (fun σ H Q => te σ H fun x H1 => rItemsV X.K id (fun _ => True) x H1 Q) := by
  refine ⟨fun pins s σ H Q I hq => ?_⟩
  refine wpAny_Call_Name_kw (ld_blt I hg hm hv ?_)
  refine PyProof.Rows.callWith_type1 ?_ hs rfl
  rw [hs]
  show wpAny _ _ (spliced ((false, eval (.Call (.Attribute e "items" apos) [] [] cpos) X.env) :: backTo pos (starEach [] X.env))) _ _ s
  refine Calls.spliced_cons ?_
  refine wpAny_Call_method (T := "dict") (id := "dict.items") hbase rfl hline F.plainAttrs_dict F.slot_dict_items F.type_dict_items (thn (he.run pins s σ H _ I hq) fun u s1 ⟨x, H1, I1, rx, d, kvs, ks, ex, hd, hr, _, q⟩ => ?_)
  subst ex
  obtain rfl : u = Value.ref d := rx
  obtain ⟨hz, hs0, vs, kv, hdo⟩ := dk_rd I1.hok hd
  obtain ⟨ep, hat⟩ := hdo.dictAt
  have lk : kvs.length = vs.length := Paired.length kv
  have I2 : Inv X pins σ H1 { s1 with heap := s1.heap.push { cls := .type "dict_items", data := .fields #[.ref d] } } := I1.kept (t' := s1.toks) fun b ob q => Heap.get?_push_of_some _ q
  refine ⟨hdo.typeIs, hdo.mapOf.noDict, ?_⟩
  show wpAny _ _ (callWith cpos (.builtin "dict.items") [.ref d] [] []) _ X.xe s1
  refine method_meetsIn F.slot_dict_items F.entry_dict_items rfl (PySem.evalArgs_none ⟨rfl, hdo.typeIs, F.args_dict_items_1 _, _, meets_dict_items (mixKind X.prog X.w) d hs0, ⟨vs, hdo⟩, ?_⟩)
  refine Calls.spliced_nil ?_
  refine PySem.W.kdx_call (knd := mixKind X.prog X.w) (kvs := vs) (ep := ep) (I1.ok.hd hc) ⟨_, Heap.get?_push_size _ rfl, rfl, rfl⟩ (hat.push _) (by omega) fun h' tk acc c as hk hS hl hG hacc => ?_
  obtain ⟨H', k1, k2, k3, k4, k5, k6, J⟩ := items_laid (tk := tk) I2 hz kv hk hS hl hG hacc
  have sb : Sb X.K H1 H' := ⟨fun a xs z => k1 a _ z, fun a o u z => k1 a _ z⟩
  exact ⟨.ref _, H', J, rfl, q H' _ _ k1 k2 k5 (pairs_rds sb k6 hr)⟩
/-- dict items at the heap's level: tris -/
theorem pe_sortItems (hc : X.calm = true) (he : PE X e te) (hm : X.mg "sorted" = none) (hg : Gl X "sorted" := by rfl) (hv : bootBuiltins "sorted" = some (.builtin "sorted") := by decide +kernel) (hbase : attributeBase e "items" X.env (eval e X.env) = eval e X.env := by rfl) (hline : (apos.endLine == cpos.line) = true := by rfl)
    (hs : starEach [.Call (.Attribute e "items" apos) [] [] cpos] X.env = (false, eval (.Call (.Attribute e "items" apos) [] [] cpos) X.env) :: starEach [] X.env := by rfl) :
    PE X (.Call (.Name "sorted" p) [.Call (.Attribute e "items" apos) [] [] cpos] [] pos) (fun σ H Q => te σ H fun x H1 => rItemsV X.K (srtBy (·.1)) (fun ks => (ks.map (·.1)).Nodup ∧ oneKind (ks.map (·.1)) = true) x H1 Q) := by
  refine ⟨fun pins s σ H Q I hq => ?_⟩
  refine wpAny_Call_Name_kw (ld_blt I hg hm hv ?_)
  refine PyProof.Rows.callWith_builtin1 ?_ hs rfl
  rw [hs]
  show wpAny _ _ (spliced ((false, eval (.Call (.Attribute e "items" apos) [] [] cpos) X.env) :: backTo pos (starEach [] X.env))) _ _ s
  refine Calls.spliced_cons ?_
  refine wpAny_Call_method (T := "dict") (id := "dict.items") hbase rfl hline F.plainAttrs_dict F.slot_dict_items F.type_dict_items (thn (he.run pins s σ H _ I hq) fun u s1 ⟨x, H1, I1, rx, d, kvs, ks, ex, hd, hr, ⟨nd, one⟩, q⟩ => ?_)
  subst ex
  obtain rfl : u = Value.ref d := rx
  obtain ⟨hz, hs0, vs, kv, hdo⟩ := dk_rd I1.hok hd
  obtain ⟨ep, hat⟩ := hdo.dictAt
  have lk : kvs.length = vs.length := Paired.length kv
  have I2 : Inv X pins σ H1 { s1 with heap := s1.heap.push { cls := .type "dict_items", data := .fields #[.ref d] } } := I1.kept (t' := s1.toks) fun b ob q => Heap.get?_push_of_some _ q
  refine ⟨hdo.typeIs, hdo.mapOf.noDict, ?_⟩
  show wpAny _ _ (callWith cpos (.builtin "dict.items") [.ref d] [] []) _ X.xe s1
  refine method_meetsIn F.slot_dict_items F.entry_dict_items rfl (PySem.evalArgs_none ⟨rfl, hdo.typeIs, F.args_dict_items_1 _, _, meets_dict_items (mixKind X.prog X.w) d hs0, ⟨vs, hdo⟩, ?_⟩)
  refine Calls.spliced_nil ?_
  refine Calls.call_function_entry PyProof.Rows.kind_sorted PyProof.Rows.plain_sorted PyProof.Rows.entry_sorted (PyProof.Rows.args_sorted1 _) ?_
  unfold Builtin.«sorted»
  refine wpAny_bind (m := checkCount "sorted" 1 1 _) (wpAny_pure ?_)
  refine wpAny_bind (PySem.W.kdx_collect (A := X.A.in1) (knd := mixKind X.prog X.w) (kvs := vs) (ep := ep) (I1.ok.hd hc) ⟨_, Heap.get?_push_size _ rfl, rfl, rfl⟩ (hat.push _) (by omega) fun h' tk as hk hl hG => ?_)
  refine wpAny_bind (wpAny_newList ?_ (by rw [List.length_map, hl]; omega))
  have lak : as.length = ks.length := by rw [hl, ← lk, hr.length]
  have ndA : as.Nodup := List.Pairwise.imp (fun h => Nat.ne_of_lt h) hG.rise
  have hob : (h'.push (seqObj "list" (as.map Value.ref).toArray 0)).get? h'.objs.size = some (seqObj "list" (as.map Value.ref).toArray 0) := Heap.get?_push_size _ rfl
  have ne0 : ∀ b o, h'.get? b = some o → b ≠ h'.objs.size := fun b o e => Nat.ne_of_lt (Heap.lt_size e)
  have ka : ∀ b o, h'.get? b = some o → (h'.push (seqObj "list" (as.map Value.ref).toArray 0)).get? b = some o := fun b o e => Heap.get?_push_of_some _ e
  have pr : ∀ (j : Nat) (b : Addr), as[j]? = some b → ∃ (kq : Key × D) (key x : Value) (v : V), ks[j]? = some kq ∧ h'.get? b = some { cls := .type "tuple", data := .seq #[key, x] } ∧ RelV (kV kq.1) key ∧ okK kq.1 ∧ RelV v x ∧ RD X.K H1 v kq.2 := by
    intro j b hj
    obtain ⟨key, k, x, f1, f2, f3⟩ := hG.pairs j b hj
    have hlt : j < ks.length := by rw [← lak]; exact (List.getElem?_eq_some_iff.mp hj).1
    obtain ⟨v, g1, g2, g3⟩ := Dl.RDk.get hr (i := j) (k := ks[j].1) (d := ks[j].2) (List.getElem?_eq_getElem hlt)
    obtain ⟨y, m1, m2, m3⟩ := LiI.paired_get kv g1
    rw [f1] at m1
    cases m1
    refine ⟨ks[j], key, x, v, List.getElem?_eq_getElem hlt, f3, ?_, g3, m3, g2⟩
    have e : ks[j].1 = k := m2
    rw [e]
    exact relV_key (show keyIs k key = true from f2)
  generalize hh2 : h'.push (seqObj "list" (as.map Value.ref).toArray 0) = h2 at hob ka
  show wpAny _ _ _ _ _ { s1 with heap := h2, toks := tk }
  obtain ⟨ts, hts⟩ : ∃ ts : List Tri, ts = (as.zip ks).map fun z => ⟨.ref z.1, .ref z.1, z.2⟩ := ⟨_, rfl⟩
  have tu : ts.map (·.u) = as.map Value.ref := by
    rw [hts, List.map_map]
    have e : ((fun t : Tri => t.u) ∘ fun (z : Addr × (Key × D)) => (⟨.ref z.1, .ref z.1, z.2⟩ : Tri)) = Value.ref ∘ Prod.fst := rfl
    rw [e, ← List.map_map, List.map_fst_zip (by omega)]
  have tp : ts.map (·.p) = ks := by
    rw [hts, List.map_map]
    have e : ((fun t : Tri => t.p) ∘ fun (z : Addr × (Key × D)) => (⟨.ref z.1, .ref z.1, z.2⟩ : Tri)) = Prod.snd := rfl
    rw [e, List.map_snd_zip (by omega)]
  have tin : ∀ t ∈ ts, ∃ (j : Nat) (b : Addr), as[j]? = some b ∧ ks[j]? = some t.p ∧ t.u = .ref b ∧ t.x = .ref b := by
    intro t ht
    rw [hts] at ht
    obtain ⟨z, hz', rfl⟩ := List.mem_map.mp ht
    obtain ⟨j, hj⟩ := List.mem_iff_getElem?.mp hz'
    obtain ⟨a1, a2⟩ := List.getElem?_zip_eq_some.mp hj
    exact ⟨j, z.1, a1, a2, rfl, rfl⟩
  have kp : ∀ t ∈ ts, SP.IsKP h2 t.u t.p.1 := by
    intro t ht
    obtain ⟨j, b, e1, e2, e3, e4⟩ := tin t ht
    obtain ⟨kq, key, x, v, f1, f2, f3, _⟩ := pr j b e1
    rw [e2] at f1
    cases f1
    exact ⟨b, _, key, x, 0, e3, ka _ _ f2, rfl, rfl, f3⟩
  have kk : ∀ t ∈ ts, keyAt h2 t.u = t.p.1 := fun t ht => (keyAt_of (kp t ht)).2
  have km : (as.map Value.ref).map (keyAt h2) = ks.map (·.1) := by
    rw [← tu, List.map_map]
    have e : ks.map (·.1) = ts.map (fun t => t.p.1) := by rw [← tp, List.map_map]; rfl
    rw [e]
    exact List.map_congr_left fun t ht => kk t ht
  have hp : ∀ v ∈ as.map Value.ref, SP.IsKP h2 v (keyAt h2 v) := fun v hv => by
    rw [← tu] at hv
    obtain ⟨t, ht, rfl⟩ := List.mem_map.mp hv
    exact (keyAt_of (kp t ht)).1
  have inj : ∀ v ∈ as.map Value.ref, ∀ u ∈ as.map Value.ref, keyAt h2 v = keyAt h2 u → v = u := inj_nodup (keyAt h2) (by rw [km]; exact nd)
  have hzL : (as.map Value.ref).length ≤ sizeLine := by rw [List.length_map, hl]; omega
  refine wpAny_bind (wpAny_holding (wpAny_call_entry PyProof.Rows.slot_list_sort ⟨_, hob, rfl⟩ PyProof.Rows.entry_list_sort
    (SrtO.list_sort_ord (s := { s1 with heap := h2, toks := tk }) (SP.swo_key (keyAt h2)) hob hzL (fun h2' => SP.kp_sortable (s := { s1 with heap := h2, toks := tk }) (by omega) hp inj (by rw [km]; exact one) fun o e => ?_) fun out o1 o2 => ⟨.none, rfl, ?_⟩) (PyProof.Rows.args_list_sort _)))
  · have e' : some o = some (seqObj "list" (as.map Value.ref).toArray 0) := e.symm.trans hob
    cases e'
    intro c
    exact absurd (Value.type.inj c) (by decide)
  · obtain ⟨ts', m, f1, f2⟩ := tri_out (K := X.K) (H := H1) kk (by rw [tp]; exact nd) o1 (by rw [tu]; exact o2.perm)
    rw [tp] at f2
    have kF : ∀ b o, b ≠ h'.objs.size → h2.get? b = some o → (sortedHeap h2 h'.objs.size (as.map Value.ref) out.toArray).get? b = some o := fun b o hb e => (PyProof.Rows.sortedHeap_old hb (Heap.lt_size e)).trans e
    have kS : ∀ b o, (s1.heap.push { cls := .type "dict_items", data := .fields #[.ref d] }).get? b = some o → (sortedHeap h2 h'.objs.size (as.map Value.ref) out.toArray).get? b = some o := fun b o e => kF b o (ne0 _ _ (hk b o e)) (ka b o (hk b o e))
    obtain ⟨eF, heF⟩ := PyProof.Rows.sortedHeap_at (vs := as.map Value.ref) (out := out.toArray) hob
    have I3 : Inv X pins σ H1 { s1 with heap := sortedHeap h2 h'.objs.size (as.map Value.ref) out.toArray, toks := tk } := I2.kept (t' := tk) kS
    have hle : (s1.heap.push { cls := .type "dict_items", data := .fields #[.ref d] }).objs.size ≤ h'.objs.size := by
      have hsz : (s1.heap.push { cls := .type "dict_items", data := .fields #[.ref d] }).objs.size = s1.heap.objs.size + 1 := Heap.size_push ..
      rw [hsz]
      exact Heap.lt_size (hk _ _ (Heap.get?_push_size _ rfl))
    have hn0 : H1 h'.objs.size = none := I2.hok.fresh hle
    have rv' : Vals (ts'.map (·.x)) out := by
      rw [← f1]
      clear f1 f2
      induction ts' with
      | nil => exact .nil
      | cons t r ih =>
        obtain ⟨j, b, _, _, e3, e4⟩ := tin t (m t List.mem_cons_self)
        refine .cons ?_ (ih fun t ht => m t (List.mem_cons_of_mem _ ht))
        show RelV t.x t.u
        rw [e3, e4]; rfl
    have hlen : (ts'.map (·.x)).length ≤ sizeLine := by rw [rv'.length, o2.perm.length_eq]; exact hzL
    have I4 : Inv X pins σ (upd H1 h'.objs.size (.lst (ts'.map (·.x)))) { s1 with heap := sortedHeap h2 h'.objs.size (as.map Value.ref) out.toArray, toks := tk } :=
      I3.take (h' := sortedHeap h2 h'.objs.size (as.map Value.ref) out.toArray) (t' := tk) (fun b ob _ e => e) (I2.fpOk hle hn0) ⟨hlen, out, eF, rv', heF⟩
    obtain ⟨H2, I5, g, qt⟩ := L2.DX.takeT (P := fun b vs => ∃ (j : Nat) (kq : Key × D) (v : V), as[j]? = some b ∧ ks[j]? = some kq ∧ vs = [kV kq.1, v] ∧ okK kq.1 ∧ RD X.K H1 v kq.2) I2 as _ I4 ndA fun b hb => by
      obtain ⟨j, hj⟩ := List.mem_iff_getElem?.mp hb
      obtain ⟨kq, key, x, v, f1, f2, f3, f4, f5, f6⟩ := pr j b hj
      have hbl : (s1.heap.push { cls := .type "dict_items", data := .fields #[.ref d] }).objs.size ≤ b := Nat.le_of_lt (hG.above b hb)
      refine ⟨hbl, ?_, [kV kq.1, v], ⟨j, kq, v, hj, f1, rfl, f4, f6⟩, fun H3 => ⟨(by rw [sizeLine_eq]; show 2 ≤ 16777216; omega), [key, x], .cons f3 (.cons f5 .nil), ⟨_, kF _ _ (ne0 _ _ f2) (ka _ _ f2), rfl, 0, rfl⟩⟩⟩
      rw [upd_ne (ne0 _ _ f2)]
      exact I2.hok.fresh hbl
    have gr : ∀ b o, H1 b = some o → H2 b = some o := fun b o e => g b o (by rw [upd_ne (ne_of_none e hn0)]; exact e)
    have sb : Sb X.K H1 H2 := ⟨fun a xs z => gr a _ z, fun a o u z => gr a _ z⟩
    have rr : RDs X.K H2 (ts'.map (·.x)) ((ts'.map (·.p)).map pairD) := by
      have one' : ∀ t ∈ ts', RD X.K H2 t.x (pairD t.p) := fun t ht => by
        obtain ⟨j, b, e1, e2, e3, e4⟩ := tin t (m t ht)
        obtain ⟨vs', ⟨j', kq, v, a1, a2, ev, ok, rd⟩, hH⟩ := qt b (List.mem_of_getElem? e1)
        have eij : j = j' := (List.getElem?_inj (List.getElem?_eq_some_iff.mp e1).1 ndA).mp (e1.trans a1.symm)
        subst eij
        have ee : kq = t.p := Option.some.inj (a2.symm.trans e2)
        rw [ev, ee] at hH
        rw [ee] at ok rd
        rw [e4]
        exact .tup (.of hH) (.cons (rd_key ok) (.cons (rd.sb sb) .nil))
      clear f1 f2 rv' hlen I4 I5 g qt m
      induction ts' with
      | nil => exact .nil
      | cons t r ih => exact .cons (one' t List.mem_cons_self) (ih fun t ht => one' t (List.mem_cons_of_mem _ ht))
    rw [f2] at rr
    exact wpAny_pure ⟨_, rfl, .ref h'.objs.size, H2, I5, rfl, q H2 h'.objs.size _ gr hn0 (g _ _ upd_same) rr⟩
end
section
variable {X : Cx} {e : Expr} {de : DE} {p apos cpos pos : Pos}
/-- list(d.items()), sorted(d.items()) -/
@[simp] def dLItems (de : DE) : DA := fun σ G Q => de σ G fun x G1 => ∃ ks, asD G1 x = .dic ks ∧ Q (ks.map pairD) G1
@[simp] def dSItems (de : DE) : DA := fun σ G Q => de σ G fun x G1 => ∃ ks, asD G1 x = .dic ks ∧ (ks.map (·.1)).Nodup ∧ oneKind (ks.map (·.1)) = true ∧ Q ((srtBy (·.1) ks).map pairD) G1
theorem pl_listItems (hc : X.calm = true) (hm : X.mg "list" = none) (he : PD X e de) (hg : Gl X "list" := by rfl) (hv : bootBuiltins "list" = some (.type "list") := by decide +kernel) (hbase : attributeBase e "items" X.env (eval e X.env) = eval e X.env := by rfl) (hline : (apos.endLine == cpos.line) = true := by rfl)
    (hs : starEach [.Call (.Attribute e "items" apos) [] [] cpos] X.env = (false, eval (.Call (.Attribute e "items" apos) [] [] cpos) X.env) :: starEach [] X.env := by rfl) :
    PDl X (.Call (.Name "list" p) [.Call (.Attribute e "items" apos) [] [] cpos] [] pos) (dLItems de) := by
  obtain ⟨te, a, b⟩ := he
  refine ⟨_, pe_listItemsA hc a hm hg hv hbase hline hs, fun G H σ σd Qd Q g re h k => ?_⟩
  refine b G H σ σd _ _ g re h fun v d G1 H1 o r ⟨ks, ek, q⟩ => ?_
  obtain ⟨a', ws, rfl, hd, hv⟩ := dk_as o.gd r ek
  refine ⟨a', ws, ks, rfl, hd, hv, trivial, fun H' p ys gr hp hl hr => ?_⟩
  exact k p ys _ G1 H' (o.trans (.grow o.gd gr)) (o.gd.none_of hp) (o.th p hp) hl hr q
theorem pl_sortItems (hc : X.calm = true) (hm : X.mg "sorted" = none) (he : PD X e de) (hg : Gl X "sorted" := by rfl) (hv : bootBuiltins "sorted" = some (.builtin "sorted") := by decide +kernel) (hbase : attributeBase e "items" X.env (eval e X.env) = eval e X.env := by rfl) (hline : (apos.endLine == cpos.line) = true := by rfl)
    (hs : starEach [.Call (.Attribute e "items" apos) [] [] cpos] X.env = (false, eval (.Call (.Attribute e "items" apos) [] [] cpos) X.env) :: starEach [] X.env := by rfl) :
    PDl X (.Call (.Name "sorted" p) [.Call (.Attribute e "items" apos) [] [] cpos] [] pos) (dSItems de) := by
  obtain ⟨te, a, b⟩ := he
  refine ⟨_, pe_sortItems hc a hm hg hv hbase hline hs, fun G H σ σd Qd Q g re h k => ?_⟩
  refine b G H σ σd _ _ g re h fun v d G1 H1 o r ⟨ks, ek, nd, one, q⟩ => ?_
  obtain ⟨a', ws, rfl, hd, hv⟩ := dk_as o.gd r ek
  refine ⟨a', ws, ks, rfl, hd, hv, ⟨nd, one⟩, fun H' p ys gr hp hl hr => ?_⟩
  exact k p ys _ G1 H' (o.trans (.grow o.gd gr)) (o.gd.none_of hp) (o.th p hp) hl hr q
end
end Dl

end
section
set_option maxHeartbeats 4000000
/-! zip of two lists or tuples, in any mix (after HandS.Zip0, HandS.Zip, which know two of a kind) -/
namespace Dl
namespace Zg
open PySem PySem.Spec
open PySem.Sem (wp)
def SeqIt (h : Heap) (l : Bool) (it a : Addr) (i : Nat) : Prop := if l = true then h.IsListIter it a i else h.IsTupleIter it a i
def SeqOf (h : Heap) (l : Bool) (a : Addr) (xs : Array Value) : Prop := if l = true then h.IsList a xs else h.IsTuple a xs
abbrev itN (l : Bool) : String := if l = true then "list_iterator" else "tuple_iterator"
section
variable {h h' : Heap} {l : Bool} {a b it : Addr} {i : Nat} {xs : Array Value}
theorem SeqIt.extBut (x : SeqIt h l it a i) (hs : Heap.ExtBut b h h') (n : it ≠ b) : SeqIt h' l it a i := by
  cases l
  · exact Heap.IsTupleIter.extBut (h := h) x hs n
  · exact Heap.IsListIter.extBut (h := h) x hs n
theorem SeqIt.at (x : SeqIt h l it a i) (e : ∀ o, h.get? it = some o → h'.get? it = some o) : SeqIt h' l it a i := by
  cases l
  · exact Heap.IsTupleIter.at (h := h) x e
  · exact Heap.IsListIter.at (h := h) x e
theorem SeqOf.extBut (x : SeqOf h l a xs) (hs : Heap.ExtBut b h h') (n : a ≠ b) : SeqOf h' l a xs := by
  cases l
  · exact Heap.IsTuple.extBut (h := h) x hs n
  · exact Heap.IsList.extBut (h := h) x hs n
theorem SeqOf.push (x : SeqOf h l a xs) (o : Obj) : SeqOf (h.push o) l a xs := by
  cases l
  · exact Heap.IsTuple.push (h := h) x o
  · exact Heap.IsList.push (h := h) x o
theorem SeqIt.lt (x : SeqIt h l it a i) : it < h.objs.size := by
  cases l
  · obtain ⟨_, e, _⟩ := (show h.IsTupleIter it a i from x); exact Heap.lt_size e
  · obtain ⟨_, e, _⟩ := (show h.IsListIter it a i from x); exact Heap.lt_size e
theorem SeqIt.ob (x : SeqIt h l it a i) : ∃ o, h.get? it = some o ∧ ∀ v, o.data ≠ .cell v := by
  cases l
  · obtain ⟨o, e, _, d⟩ := (show h.IsTupleIter it a i from x); exact ⟨o, e, fun v q => by rw [d] at q; cases q⟩
  · obtain ⟨o, e, _, d⟩ := (show h.IsListIter it a i from x); exact ⟨o, e, fun v q => by rw [d] at q; cases q⟩
theorem SeqIt.of (e : h.get? it = some { cls := .type (itN l), data := .fields #[.ref a, .int 0 0] }) : SeqIt h l it a 0 := by
  cases l
  · exact ⟨_, e, rfl, rfl⟩
  · exact ⟨_, e, rfl, rfl⟩
end
section
variable {prog : Program} {w : World} {A : Around} {E : Value → Shared → Prop} {s : Shared} {la : Bool}
theorem nextOf_seq_item {it l : Addr} {i : Nat} {items} {x : Value} {Q : Value → Shared → Prop} (hit : SeqIt s.heap la it l i) (hl : SeqOf s.heap la l items) (hx : items[i]? = some x)
    (hQ : ∀ h', SeqIt h' la it l (i + 1) → Heap.SameBut it s.heap h' → Q x { s with heap := h' }) : wpAny (model prog w) A (Builtin.SmallTypes.nextOf (.ref it)) Q E s := by
  cases la
  · exact RZ.nextOf_tuple_item hit hl hx hQ
  · exact wpAny_nextOf_list_item hit hl hx hQ
theorem nextOf_seq_end {it l : Addr} {i : Nat} {items} {Q : Value → Shared → Prop} (hh : A.handled = none) (hit : SeqIt s.heap la it l i) (hl : SeqOf s.heap la l items) (hx : items[i]? = none)
    (hE : ∀ h' e, Heap.ExtBut it s.heap h' → (∃ o, h'.get? e = some o ∧ o.cls = .type "StopIteration") → E (.ref e) { s with heap := h' }) : wpAny (model prog w) A (Builtin.SmallTypes.nextOf (.ref it)) Q E s := by
  cases la
  · exact RZ.nextOf_tuple_end hh hit hl hx hE
  · exact wpAny_nextOf_list_end hh hit hl hx hE
theorem wpAny_pyIter_seq {l : Addr} {items : Array Value} {Q : Value → Shared → Prop} (hl : SeqOf s.heap la l items)
    (h : Q (.ref s.heap.objs.size) { s with heap := s.heap.push { cls := .type (itN la), data := .fields #[.ref l, .int 0 0] } }) : wpAny (model prog w) A (pyIter (.ref l)) Q E s := by
  cases la
  · exact wpAny_pyIter_tuple hl h
  · exact wpAny_pyIter_list hl h
theorem zipT_next_item {la lb : Bool} {z TI TO i1 i2 l1 l2 : Addr} {k1 k2 : Nat} {xs ys : Array Value} {x y a b : Value} {Q : Value → Shared → Prop} (D : ZipApart z TI TO i1 i2 l1 l2)
    (hz : IsZip s.heap z TI TO .none) (hTI : IsPair s.heap TI (.ref i1) (.ref i2)) (hTO : IsPair s.heap TO a b)
    (h1 : SeqIt s.heap la i1 l1 k1) (h2 : SeqIt s.heap lb i2 l2 k2) (hl1 : SeqOf s.heap la l1 xs) (hl2 : SeqOf s.heap lb l2 ys) (hx : xs[k1]? = some x) (hy : ys[k2]? = some y)
    (hQ : ∀ h', IsZip h' z TI TO (rawInt s.heap.objs.size) → IsPair h' TO x y → SeqIt h' la i1 l1 (k1 + 1) → SeqIt h' lb i2 l2 (k2 + 1) → IsPair h' s.heap.objs.size x y → h'.objs.size = s.heap.objs.size + 1 →
      (∀ c o, c ≠ z → c ≠ TO → c ≠ i1 → c ≠ i2 → s.heap.get? c = some o → h'.get? c = some o) → Q (.ref s.heap.objs.size) { s with heap := h' }) :
    wpAny (model prog w) A (Builtin.«zip.__next__» ⟨[.ref z], []⟩) (fun fin s' => ∃ v, fin = .done (.ret v) ∧ Q v s') E s := by
  show wpAny _ _ (field (.ref z) 2 >>= _) _ _ _
  refine wpAny_bind (wpAny_field hz rfl (x := .bool false) rfl ?_)
  show wpAny _ _ (field (.ref z) 3 >>= _) _ _ _
  refine wpAny_bind (wpAny_field hz rfl (x := .ref TI) rfl ?_)
  refine wpAny_bind (wpAny_seqItems hTI rfl ?_)
  show wpAny _ _ (Builtin.SmallTypes.ownedTupleIsFree (.ref z) >>= _) _ _ _
  refine wpAny_bind ?_
  unfold Builtin.SmallTypes.ownedTupleIsFree
  refine wpAny_bind (wpAny_field hz rfl (x := .none) rfl (wpAny_pure ?_))
  simp only [if_true]
  refine wpAny_bind (wpAny_rule ?_)
  refine wpAny_bind (wpAny_field hz rfl (x := .ref TO) rfl ?_)
  refine wpAny_bind (wpAny_setField_rec hz (by simp) fun h₁ hz₁ hs₁ => ?_)
  replace hz₁ : IsZip h₁ z TI TO .ellipsis := hz₁
  refine wpAny_bind ?_
  simp only [List.zipIdx_cons, List.zipIdx_nil, List.forIn_cons, List.forIn_nil]

  refine wpAny_bind (wpAny_bind (wpAny_onRaise ?_))
  show wpAny _ _ (Builtin.SmallTypes.nextOf (.ref i1) >>= _) _ _ _
  refine wpAny_bind (nextOf_seq_item (h1.extBut hs₁.extBut D.i1z) (hl1.extBut hs₁.extBut D.l1z) hx fun h₂ h1₂ hs₂ => wpAny_pure ?_)
  have hTO₂ : IsPair h₂ TO a b := hs₂.extBut _ _ D.TOi1 (hs₁.extBut _ _ D.TOz hTO)
  refine wpAny_bind (wpAny_seqItems hTO₂ rfl ?_)
  refine wpAny_bind (wpAny_updateSeq_pair hTO₂ fun h₃ hTO₃ hs₃ => ?_)
  replace hTO₃ : IsPair h₃ TO x b := hTO₃
  refine wpAny_bind (wpAny_letGo (wpAny_pure ?_))

  refine wpAny_bind (wpAny_bind (wpAny_onRaise ?_))
  show wpAny _ _ (Builtin.SmallTypes.nextOf (.ref i2) >>= _) _ _ _
  refine wpAny_bind (nextOf_seq_item (((h2.extBut hs₁.extBut D.i2z).extBut hs₂.extBut D.i12.symm).extBut hs₃.extBut D.TOi2.symm)
    (((hl2.extBut hs₁.extBut D.l2z).extBut hs₂.extBut D.l2i1).extBut hs₃.extBut D.l2TO) hy fun h₄ h2₄ hs₄ => wpAny_pure ?_)
  have hTO₄ : IsPair h₄ TO x b := hs₄.extBut _ _ D.TOi2 hTO₃
  refine wpAny_bind (wpAny_seqItems hTO₄ rfl ?_)
  refine wpAny_bind (wpAny_updateSeq_pair hTO₄ fun h₅ hTO₅ hs₅ => ?_)
  replace hTO₅ : IsPair h₅ TO x y := hTO₅
  refine wpAny_bind (wpAny_letGo (wpAny_pure (wpAny_pure ?_)))

  refine wpAny_bind (wpAny_seqItems hTO₅ rfl ?_)
  refine wpAny_bind (wpAny_newTuple ?_)
  have hsz : h₅.objs.size = s.heap.objs.size := by rw [hs₅.1, hs₄.1, hs₃.1, hs₂.1, hs₁.1]
  have hz₅ : IsZip h₅ z TI TO .ellipsis := hs₅.extBut _ _ D.TOz.symm (hs₄.extBut _ _ D.i2z.symm (hs₃.extBut _ _ D.TOz.symm (hs₂.extBut _ _ D.i1z.symm hz₁)))
  have hk₅ : ∀ c o, c ≠ z → c ≠ TO → c ≠ i1 → c ≠ i2 → s.heap.get? c = some o → h₅.get? c = some o := fun c o c1 c2 c3 c4 e =>
    hs₅.extBut _ _ c2 (hs₄.extBut _ _ c4 (hs₃.extBut _ _ c2 (hs₂.extBut _ _ c3 (hs₁.extBut _ _ c1 e))))
  have h1₅ : SeqIt h₅ la i1 l1 (k1 + 1) := ((h1₂.extBut hs₃.extBut D.TOi1.symm).extBut hs₄.extBut D.i12).extBut hs₅.extBut D.TOi1.symm
  have h2₅ : SeqIt h₅ lb i2 l2 (k2 + 1) := h2₄.extBut hs₅.extBut D.TOi2.symm
  have hzlt : z < h₅.objs.size := Heap.lt_size hz₅
  have hTOlt : TO < h₅.objs.size := Heap.lt_size hTO₅
  have hi1lt : i1 < h₅.objs.size := h1₅.lt
  have hi2lt : i2 < h₅.objs.size := h2₅.lt
  show wpAny _ _ (Builtin.SmallTypes.ownedTupleHandOut (.ref z) (.ref h₅.objs.size) >>= _) _ _ _
  refine wpAny_bind ?_
  unfold Builtin.SmallTypes.ownedTupleHandOut
  have hz₆ : IsZip (h₅.push { cls := .type "tuple", data := .seq #[x, y] }) z TI TO .ellipsis := Heap.get?_push_of_some _ hz₅
  refine wpAny_bind (wpAny_setField_rec hz₆ (by simp) fun h₇ hz₇ hs₇ => ?_)
  replace hz₇ : IsZip h₇ z TI TO (rawInt h₅.objs.size) := hz₇
  refine wpAny_setField_rec hz₇ (by simp) fun h₈ hz₈ hs₈ => ?_
  replace hz₈ : IsZip h₈ z TI TO (rawInt h₅.objs.size) := hz₈
  have up : ∀ c o, c ≠ z → h₅.get? c = some o → h₈.get? c = some o := fun c o c1 e => hs₈.extBut _ _ c1 (hs₇.extBut _ _ c1 (Heap.get?_push_of_some _ e))
  have hT₈ : IsPair h₈ h₅.objs.size x y := hs₈.extBut _ _ (Nat.ne_of_gt hzlt) (hs₇.extBut _ _ (Nat.ne_of_gt hzlt) (Heap.get?_push_size _ rfl))
  have hz8 : h₈.objs.size = h₅.objs.size + 1 := by rw [hs₈.1, hs₇.1, Heap.size_push]
  rw [hsz] at hz₈ hT₈ hz8
  refine wpAny_pure ⟨_, rfl, ?_⟩
  show Q (.ref h₅.objs.size) _
  rw [hsz]
  exact hQ h₈ hz₈ (up _ _ D.TOz hTO₅) (h1₅.at fun o e => up _ o D.i1z e) (h2₅.at fun o e => up _ o D.i2z e) hT₈ hz8 fun c o c1 c2 c3 c4 e => up c o c1 (hk₅ c o c1 c2 c3 c4 e)

theorem zipT_next_end {la lb : Bool} {z TI TO i1 i2 l1 l2 : Addr} {k1 k2 : Nat} {xs ys : Array Value} {a b : Value} {Q : Fin → Shared → Prop} (hh : A.handled = none) (D : ZipApart z TI TO i1 i2 l1 l2)
    (hz : IsZip s.heap z TI TO .none) (hTI : IsPair s.heap TI (.ref i1) (.ref i2)) (hTO : IsPair s.heap TO a b)
    (h1 : SeqIt s.heap la i1 l1 k1) (h2 : SeqIt s.heap lb i2 l2 k2) (hl1 : SeqOf s.heap la l1 xs) (hl2 : SeqOf s.heap lb l2 ys) (hend : xs[k1]? = none ∨ ys[k2]? = none)
    (hE : ∀ h' e, (∀ c o, c ≠ z → c ≠ TO → c ≠ i1 → c ≠ i2 → s.heap.get? c = some o → h'.get? c = some o) → (∃ o, h'.get? e = some o ∧ o.cls = .type "StopIteration") → E (.ref e) { s with heap := h' }) :
    wpAny (model prog w) A (Builtin.«zip.__next__» ⟨[.ref z], []⟩) Q E s := by
  show wpAny _ _ (field (.ref z) 2 >>= _) _ _ _
  refine wpAny_bind (wpAny_field hz rfl (x := .bool false) rfl ?_)
  show wpAny _ _ (field (.ref z) 3 >>= _) _ _ _
  refine wpAny_bind (wpAny_field hz rfl (x := .ref TI) rfl ?_)
  refine wpAny_bind (wpAny_seqItems hTI rfl ?_)
  show wpAny _ _ (Builtin.SmallTypes.ownedTupleIsFree (.ref z) >>= _) _ _ _
  refine wpAny_bind ?_
  unfold Builtin.SmallTypes.ownedTupleIsFree
  refine wpAny_bind (wpAny_field hz rfl (x := .none) rfl (wpAny_pure ?_))
  simp only [if_true]
  refine wpAny_bind (wpAny_rule ?_)
  refine wpAny_bind (wpAny_field hz rfl (x := .ref TO) rfl ?_)
  refine wpAny_bind (wpAny_setField_rec hz (by simp) fun h₁ hz₁ hs₁ => ?_)
  replace hz₁ : IsZip h₁ z TI TO .ellipsis := hz₁
  refine wpAny_bind ?_
  simp only [List.zipIdx_cons, List.zipIdx_nil, List.forIn_cons, List.forIn_nil]
  refine wpAny_bind (wpAny_bind (wpAny_onRaise ?_))
  show wpAny _ _ (Builtin.SmallTypes.nextOf (.ref i1) >>= _) _ _ _
  cases hx : xs[k1]? with
  | none =>
    refine wpAny_bind (nextOf_seq_end hh (h1.extBut hs₁.extBut D.i1z) (hl1.extBut hs₁.extBut D.l1z) hx fun h₂ e hs₂ he => ?_)
    obtain ⟨oe, hoe, hce⟩ := he
    have hz₂ : IsZip h₂ z TI TO .ellipsis := hs₂ _ _ D.i1z.symm hz₁
    have hez : e ≠ z := fun x => by subst x; rw [hz₂] at hoe; cases hoe; simp at hce
    refine wpAny_setField_rec hz₂ (by simp) fun h₃ _ hs₃ => hE h₃ e (fun c o c1 _ c3 _ x => hs₃.extBut _ _ c1 (hs₂ _ _ c3 (hs₁.extBut _ _ c1 x))) ⟨oe, hs₃.extBut _ _ hez hoe, hce⟩
  | some x =>
    have hy : ys[k2]? = none := by rcases hend with h | h; rw [hx] at h; cases h; exact h
    refine wpAny_bind (nextOf_seq_item (h1.extBut hs₁.extBut D.i1z) (hl1.extBut hs₁.extBut D.l1z) hx fun h₂ h1₂ hs₂ => wpAny_pure ?_)
    have hTO₂ : IsPair h₂ TO a b := hs₂.extBut _ _ D.TOi1 (hs₁.extBut _ _ D.TOz hTO)
    refine wpAny_bind (wpAny_seqItems hTO₂ rfl ?_)
    refine wpAny_bind (wpAny_updateSeq_pair hTO₂ fun h₃ hTO₃ hs₃ => ?_)
    refine wpAny_bind (wpAny_letGo (wpAny_pure ?_))
    refine wpAny_bind (wpAny_bind (wpAny_onRaise ?_))
    show wpAny _ _ (Builtin.SmallTypes.nextOf (.ref i2) >>= _) _ _ _
    refine wpAny_bind (nextOf_seq_end hh (((h2.extBut hs₁.extBut D.i2z).extBut hs₂.extBut D.i12.symm).extBut hs₃.extBut D.TOi2.symm)
      (((hl2.extBut hs₁.extBut D.l2z).extBut hs₂.extBut D.l2i1).extBut hs₃.extBut D.l2TO) hy fun h₄ e hs₄ he => ?_)
    obtain ⟨oe, hoe, hce⟩ := he
    have hz₄ : IsZip h₄ z TI TO .ellipsis := hs₄ _ _ D.i2z.symm (hs₃.extBut _ _ D.TOz.symm (hs₂.extBut _ _ D.i1z.symm hz₁))
    have hez : e ≠ z := fun x => by subst x; rw [hz₄] at hoe; cases hoe; simp at hce
    refine wpAny_setField_rec hz₄ (by simp) fun h₅ _ hs₅ => hE h₅ e (fun c o c1 c2 c3 c4 x => hs₅.extBut _ _ c1 (hs₄ _ _ c4 (hs₃.extBut _ _ c2 (hs₂.extBut _ _ c3 (hs₁.extBut _ _ c1 x))))) ⟨oe, hs₅.extBut _ _ hez hoe, hce⟩

theorem pyNext_zipT_item {la lb : Bool} {z TI TO i1 i2 l1 l2 : Addr} {k1 k2 : Nat} {xs ys : Array Value} {x y a b : Value} {Q : Option Value → Shared → Prop} (D : ZipApart z TI TO i1 i2 l1 l2)
    (hz : IsZip s.heap z TI TO .none) (hTI : IsPair s.heap TI (.ref i1) (.ref i2)) (hTO : IsPair s.heap TO a b)
    (h1 : SeqIt s.heap la i1 l1 k1) (h2 : SeqIt s.heap lb i2 l2 k2) (hl1 : SeqOf s.heap la l1 xs) (hl2 : SeqOf s.heap lb l2 ys) (hx : xs[k1]? = some x) (hy : ys[k2]? = some y)
    (hQ : ∀ h', IsZip h' z TI TO (rawInt s.heap.objs.size) → IsPair h' TO x y → SeqIt h' la i1 l1 (k1 + 1) → SeqIt h' lb i2 l2 (k2 + 1) → IsPair h' s.heap.objs.size x y → h'.objs.size = s.heap.objs.size + 1 →
      (∀ c o, c ≠ z → c ≠ TO → c ≠ i1 → c ≠ i2 → s.heap.get? c = some o → h'.get? c = some o) → Q (some (.ref s.heap.objs.size)) { s with heap := h' }) :
    wpAny (model prog w) A (pyNext (.ref z)) Q E s := by
  have hT : s.TypeIs (.ref z) "zip" := ⟨_, hz, rfl⟩
  unfold pyNext
  exact wpAny_bind (wpAny_attempt (wpAny_callSpecial?_slot (name := Str.ofString "__next__") hT F.slot_zip_next
    (wpAny_call_entry F.slot_zip_next hT F.entry_zip_next
      (zipT_next_item D hz hTI hTO h1 h2 hl1 hl2 hx hy fun h' a1 a2 a3 a4 a5 a6 a7 => wpAny_pure (hQ h' a1 a2 a3 a4 a5 a6 a7)) (F.args_zip_next_1 _))))

theorem pyNext_zipT_end {la lb : Bool} {z TI TO i1 i2 l1 l2 : Addr} {k1 k2 : Nat} {xs ys : Array Value} {a b : Value} {Q : Option Value → Shared → Prop} (hh : A.handled = none) (D : ZipApart z TI TO i1 i2 l1 l2)
    (hz : IsZip s.heap z TI TO .none) (hTI : IsPair s.heap TI (.ref i1) (.ref i2)) (hTO : IsPair s.heap TO a b)
    (h1 : SeqIt s.heap la i1 l1 k1) (h2 : SeqIt s.heap lb i2 l2 k2) (hl1 : SeqOf s.heap la l1 xs) (hl2 : SeqOf s.heap lb l2 ys) (hend : xs[k1]? = none ∨ ys[k2]? = none)
    (hQ : ∀ h', (∀ c o, c ≠ z → c ≠ TO → c ≠ i1 → c ≠ i2 → s.heap.get? c = some o → h'.get? c = some o) → Q none { s with heap := h' }) : wpAny (model prog w) A (pyNext (.ref z)) Q E s := by
  have hT : s.TypeIs (.ref z) "zip" := ⟨_, hz, rfl⟩
  unfold pyNext
  refine wpAny_bind (wpAny_attempt (wpAny_callSpecial?_slot (name := Str.ofString "__next__") hT F.slot_zip_next
    (wpAny_call_entry F.slot_zip_next hT F.entry_zip_next (zipT_next_end hh D hz hTI hTO h1 h2 hl1 hl2 hend fun h' e hk he => ?_) (F.args_zip_next_1 _))))
  obtain ⟨o, ho, hc⟩ := he
  refine wpAny_bind (wpAny_isInstance (T := "StopIteration") (b := true) ⟨o, ho, hc⟩ isSubtype_stop ?_)
  exact wpAny_pure (hQ _ hk)
end

abbrev zipTH1 (la : Bool) (h : Heap) (l1 : Addr) : Heap := h.push { cls := .type (itN la), data := .fields #[.ref l1, .int 0 0] }
abbrev zipTH2 (la lb : Bool) (h : Heap) (l1 l2 : Addr) : Heap := (zipTH1 la h l1).push { cls := .type (itN lb), data := .fields #[.ref l2, .int 0 0] }
abbrev zipTH3 (la lb : Bool) (h : Heap) (l1 l2 : Addr) : Heap := (zipTH2 la lb h l1 l2).push { cls := .type "tuple", data := .seq #[.ref h.objs.size, .ref (zipTH1 la h l1).objs.size] }
abbrev zipTH4 (la lb : Bool) (h : Heap) (l1 l2 : Addr) : Heap := (zipTH3 la lb h l1 l2).push { cls := .type "tuple", data := .seq #[.none, .none] }
abbrev zipTH5 (la lb : Bool) (h : Heap) (l1 l2 : Addr) : Heap := (zipTH4 la lb h l1 l2).push { cls := .type "zip", data := .fields #[.none, .bool false, .bool false, .ref (zipTH2 la lb h l1 l2).objs.size, .ref (zipTH3 la lb h l1 l2).objs.size] }

theorem meets_zipT_new (la lb : Bool) (l1 l2 : Addr) (xs ys : Array Value) :
    Meets (Builtin.«zip.__new__» ⟨[.type "zip", .ref l1, .ref l2], []⟩) (fun _ R s => SeqOf s.heap la l1 xs ∧ SeqOf s.heap lb l2 ys ∧
      R (.ok (.ret (.ref (zipTH4 la lb s.heap l1 l2).objs.size))) { s with heap := zipTH5 la lb s.heap l1 l2 }) :=
  .of_wp fun prog w A R s h => by
    obtain ⟨hp, g, d, tk, os⟩ := s; obtain ⟨hl1, hl2, h⟩ := h
    have hsub := sub_zip
    have hL1 : SeqOf (Shared.heap ⟨hp, g, d, tk, os⟩) la l1 xs := hl1
    have hL2 : SeqOf (Shared.heap ⟨hp.push { cls := .type (itN la), data := .fields #[.ref l1, .int 0 0] }, g, d, tk, os⟩) lb l2 ys := SeqOf.push hl2 _
    wp_walk using wpAny_pyIter_seq hL1, wpAny_pyIter_seq hL2
    exact ⟨_, rfl, h⟩

section
variable {prog : Program} {w : World} {A : Around} {E : Value → Shared → Prop} {s : Shared}

theorem call_zipT {la lb : Bool} {l1 l2 : Addr} {xs ys : Array Value} {Q : Value → Shared → Prop} (hl1 : SeqOf s.heap la l1 xs) (hl2 : SeqOf s.heap lb l2 ys)
    (h : ∀ h', IsZip h' (s.heap.objs.size + 4) (s.heap.objs.size + 2) (s.heap.objs.size + 3) .none → IsPair h' (s.heap.objs.size + 2) (.ref s.heap.objs.size) (.ref (s.heap.objs.size + 1)) →
      IsPair h' (s.heap.objs.size + 3) .none .none → SeqIt h' la s.heap.objs.size l1 0 → SeqIt h' lb (s.heap.objs.size + 1) l2 0 → h'.objs.size = s.heap.objs.size + 5 →
      (∀ c o, s.heap.get? c = some o → h'.get? c = some o) → Q (.ref (s.heap.objs.size + 4)) { s with heap := h' }) :
    wpAny (model prog w) A (call (.type "zip") [.ref l1, .ref l2]) Q E s := by
  refine callType_new F.called_zip (by decide) (F.typeCall_zip_2 _ _) (F.newCall_zip_2 _ _) (fun obj => F.args_object_init_3 obj _ _) F.entry_zip_new
    (meets_zipT_new la lb l1 l2 xs ys) ⟨hl1, hl2, ?_⟩
  have z1 : (zipTH1 la s.heap l1).objs.size = s.heap.objs.size + 1 := Heap.size_push ..
  have z2 : (zipTH2 la lb s.heap l1 l2).objs.size = s.heap.objs.size + 2 := by rw [Heap.size_push, z1]
  have z3 : (zipTH3 la lb s.heap l1 l2).objs.size = s.heap.objs.size + 3 := by rw [Heap.size_push, z2]
  have z4 : (zipTH4 la lb s.heap l1 l2).objs.size = s.heap.objs.size + 4 := by rw [Heap.size_push, z3]
  have z5 : (zipTH5 la lb s.heap l1 l2).objs.size = s.heap.objs.size + 5 := by rw [Heap.size_push, z4]
  have g5 : (zipTH5 la lb s.heap l1 l2).get? (zipTH4 la lb s.heap l1 l2).objs.size = some _ := Heap.get?_push_size _ rfl
  have g4 : (zipTH5 la lb s.heap l1 l2).get? (zipTH3 la lb s.heap l1 l2).objs.size = some _ := Heap.get?_push_of_some _ (Heap.get?_push_size _ rfl)
  have g3 : (zipTH5 la lb s.heap l1 l2).get? (zipTH2 la lb s.heap l1 l2).objs.size = some _ := Heap.get?_push_of_some _ (Heap.get?_push_of_some _ (Heap.get?_push_size _ rfl))
  have g2 : (zipTH5 la lb s.heap l1 l2).get? (zipTH1 la s.heap l1).objs.size = some _ := Heap.get?_push_of_some _ (Heap.get?_push_of_some _ (Heap.get?_push_of_some _ (Heap.get?_push_size _ rfl)))
  have g1 : (zipTH5 la lb s.heap l1 l2).get? s.heap.objs.size = some _ := Heap.get?_push_of_some _ (Heap.get?_push_of_some _ (Heap.get?_push_of_some _ (Heap.get?_push_of_some _ (Heap.get?_push_size _ rfl))))
  show _ ∧ _
  rw [z2, z3, z4] at g5
  rw [z1, z2] at g3
  rw [z3] at g4
  rw [z1] at g2
  rw [z4]
  exact ⟨⟨_, g5, rfl⟩, h _ g5 g3 g4 (SeqIt.of g1) (SeqIt.of g2) z5 fun c o x =>
    Heap.get?_push_of_some _ (Heap.get?_push_of_some _ (Heap.get?_push_of_some _ (Heap.get?_push_of_some _ (Heap.get?_push_of_some _ x))))⟩
end

end Zg
end Dl
namespace Dl
open PySem PySem.Spec PyProof.Rows L2 Zg
def SqX (K : PySem.W.Frag) (H : Hp) (l : Bool) (a : Addr) (xs : List V) : Prop := if l = true then SqL K H a xs else SqT K H a xs
theorem inv_seq {X : Cx} {pins : List (Addr × Obj)} {σ : L2.St} {H : Hp} {s : Shared} {l : Bool} {a : Addr} {xs : List V} (I : Inv X pins σ H s) (h : SqX X.K H l a xs) : ∃ its : List Value, Vals xs its ∧ SeqOf s.heap l a its.toArray ∧ xs.length ≤ sizeLine := by
  cases l
  · obtain ⟨its, r, p, z⟩ := I.tuple h
    exact ⟨its, r, p, z⟩
  · obtain ⟨its, r, p, z⟩ := I.list h
    exact ⟨its, r, p.isList, z⟩
theorem inv_seq_inj {X : Cx} {pins : List (Addr × Obj)} {σ : L2.St} {H : Hp} {s : Shared} {l : Bool} {a : Addr} {xs ys : List V} (I : Inv X pins σ H s) (h : SqX X.K H l a xs) (h' : SqX X.K H l a ys) : xs = ys := by
  cases l
  · exact I.tuple_inj h h'
  · exact I.list_inj h h'
/-- the tuples at a and b as they stand at each turn, the items in new pairs -/
def ItzX (K : PySem.W.Frag) (la lb : Bool) (a b : Addr) : It :=
  ⟨fun i H => ∃ (xs ys : List V) (x y : V), SqX K H la a xs ∧ SqX K H lb b ys ∧ xs[i]? = some x ∧ ys[i]? = some y,
    fun i H v H' => ∃ T x y, v = .ref T ∧ H T = none ∧ H' = upd H T (.tup [x, y]) ∧ (∀ xs, SqX K H la a xs → xs[i]? = some x) ∧ ∀ ys, SqX K H lb b ys → ys[i]? = some y,
    fun i H => ∃ xs ys : List V, SqX K H la a xs ∧ SqX K H lb b ys ∧ (xs.length ≤ i ∨ ys.length ≤ i)⟩
theorem turn_zipX {la lb : Bool} {P : Program} {w : World} {K : PySem.W.Frag} {elts : List Expr} {kk : Nat} {tpos : Pos} {a b z TI TO i1 i2 : Addr} (D : ZipApart z TI TO i1 i2 a b) :
    Turn P w K (.Tuple elts kk tpos) (ItzX K la lb a b) [z, TI, TO, i1, i2] z (fun i h => IsZip h z TI TO .none ∧ IsPair h TI (.ref i1) (.ref i2) ∧ (∃ x y, IsPair h TO x y) ∧ SeqIt h la i1 a i ∧ SeqIt h lb i2 b i) where
  mem := by simp
  obj := fun i h st c hc => by
    obtain ⟨hz, hTI, ⟨x, y, hTO⟩, h1, h2⟩ := st
    obtain ⟨o1, e1, d1⟩ := h1.ob
    obtain ⟨o2, e2, d2⟩ := h2.ob
    have e' : c = z ∨ c = TI ∨ c = TO ∨ c = i1 ∨ c = i2 := by simpa using hc
    rcases e' with q | q | q | q | q
    · rw [q]; exact ⟨_, hz, fun v q => nomatch q⟩
    · rw [q]; exact ⟨_, hTI, fun v q => nomatch q⟩
    · rw [q]; exact ⟨_, hTO, fun v q => nomatch q⟩
    · rw [q]; exact ⟨o1, e1, d1⟩
    · rw [q]; exact ⟨o2, e2, d2⟩
  keep := fun i h h' st k => by
    obtain ⟨hz, hTI, ⟨x, y, hTO⟩, h1, h2⟩ := st
    exact ⟨k z (by simp) _ hz, k TI (by simp) _ hTI, ⟨x, y, k TO (by simp) _ hTO⟩, h1.at fun o q => k i1 (by simp) o q, h2.at fun o q => k i2 (by simp) o q⟩
  item := by
    intro X hP hw hK hc i pins s σ H E I hf st hg
    subst hP hw hK
    obtain ⟨hz, hTI, ⟨x0, y0, hTO⟩, h1, h2⟩ := st
    obtain ⟨xs, ys, x, y, hqx, hqy, hx, hy⟩ := hg
    obtain ⟨its, rv, p, _⟩ := inv_seq I hqx
    obtain ⟨its2, rv2, p2, _⟩ := inv_seq I hqy
    obtain ⟨u, hu, ru⟩ := rv.get hx
    obtain ⟨u2, hu2, ru2⟩ := rv2.get hy
    have hzl : z < s.heap.objs.size := Heap.lt_size hz
    refine pyNext_zipT_item D hz hTI hTO h1 h2 p p2 (x := u) (y := u2) (by simpa using hu) (by simpa using hu2) fun h' z' TO' h1' h2' hT hsz hk => ?_
    refine ⟨_, rfl, wpAny_letOwnedTupleGo_zip (s := { s with heap := h' }) z' fun h'' z'' sb => ?_⟩
    have hT2 : h''.get? s.heap.objs.size = some { cls := .type "tuple", data := .seq #[u, u2] } := (sb.2 _ (Nat.ne_of_gt hzl)).trans hT
    have new : ObjOk X.prog X.w (upd H s.heap.objs.size (.tup [x, y])) h'' s.heap.objs.size (.tup [x, y]) :=
      ⟨by show 2 ≤ sizeLine; decide, [u, u2], .cons ru (.cons ru2 .nil), ⟨_, hT2, rfl, _, rfl⟩⟩
    have I1 : Inv X pins σ (upd H s.heap.objs.size (.tup [x, y])) { s with heap := h'' } :=
      I.turnedNew (t' := s.toks) (ch := [z, TI, TO, i1, i2]) (fun c o hb q => (sb.2 c (fun q' => hb (by simp [q']))).trans (hk c o (fun q' => hb (by simp [q'])) (fun q' => hb (by simp [q'])) (fun q' => hb (by simp [q'])) (fun q' => hb (by simp [q'])) q)) hf (Nat.le_refl _) new
    refine ⟨.ref s.heap.objs.size, _, I1, rfl, ⟨_, x, y, rfl, I.hok.fresh (Nat.le_refl _), rfl, fun l hl => by rw [inv_seq_inj I hl hqx]; exact hx, fun l hl => by rw [inv_seq_inj I hl hqy]; exact hy⟩, ⟨z'', ?_, ⟨u, u2, ?_⟩, ?_, ?_⟩, fun c hcm => ?_⟩
    · exact (sb.2 _ D.TIz).trans (hk _ _ D.TIz D.TITO D.TIi1 D.TIi2 hTI)
    · exact (sb.2 _ D.TOz).trans TO'
    · exact h1'.at fun o q => (sb.2 _ D.i1z).trans q
    · exact h2'.at fun o q => (sb.2 _ D.i2z).trans q
    · have hlt : c < s.heap.objs.size := by
        have e' : c = z ∨ c = TI ∨ c = TO ∨ c = i1 ∨ c = i2 := by simpa using hcm
        rcases e' with q | q | q | q | q
        · rw [q]; exact hzl
        · rw [q]; exact Heap.lt_size hTI
        · rw [q]; exact Heap.lt_size hTO
        · rw [q]; exact h1.lt
        · rw [q]; exact h2.lt
      rw [upd_ne (Nat.ne_of_lt hlt)]
      exact (hf c hcm).1
  done := by
    intro X hP hw hK hc i pins s σ H E I hf st hg
    subst hP hw hK
    obtain ⟨hz, hTI, ⟨x0, y0, hTO⟩, h1, h2⟩ := st
    obtain ⟨xs, ys, hqx, hqy, hend⟩ := hg
    obtain ⟨its, rv, p, _⟩ := inv_seq I hqx
    obtain ⟨its2, rv2, p2, _⟩ := inv_seq I hqy
    have l1 := rv.length
    have l2 := rv2.length
    have he : its.toArray[i]? = none ∨ its2.toArray[i]? = none := by
      rcases hend with q | q
      · exact .inl (by simp; omega)
      · exact .inr (by simp; omega)
    exact pyNext_zipT_end (I.ok.hd hc) D hz hTI hTO h1 h2 p p2 he fun h' hk => ⟨rfl, I.turnedL (t' := s.toks) (ch := [z, TI, TO, i1, i2]) (fun c o hb q =>
      hk c o (fun q' => hb (by simp [q'])) (fun q' => hb (by simp [q'])) (fun q' => hb (by simp [q'])) (fun q' => hb (by simp [q'])) q) hf⟩
  self := fun A i s Q E st h => wpAny_pyIter_zip st.1 h


end Dl

end
section
set_option maxHeartbeats 4000000
namespace Dl
open PySem PySem.Spec PyProof.Rows L2 Zg RZ
def FzX (K : PySem.W.Frag) (H : Hp) (l : Bool) (a : Addr) (xs : List V) : Prop := if l = true then FzL K H a xs else SqT K H a xs
def mkX (l : Bool) (ds : List D) : D := if l = true then .lst ds else .tup ds
theorem FzX.sq {K : PySem.W.Frag} {H : Hp} {l : Bool} {a : Addr} {xs : List V} (h : FzX K H l a xs) : SqX K H l a xs := by
  cases l
  · exact h
  · exact FzL.seq h
theorem Sb.x {K : PySem.W.Frag} {H H' : Hp} {l : Bool} {a : Addr} {xs : List V} (s : Sb K H H') (h : FzX K H l a xs) : FzX K H' l a xs := by
  cases l
  · exact s.t h
  · exact s.l h
theorem rd_mkX {K : PySem.W.Frag} {H : Hp} {l : Bool} {v : V} {ds : List D} (r : RD K H v (mkX l ds)) : ∃ a xs, v = .ref a ∧ FzX K H l a xs ∧ RDs K H xs ds := by
  cases l
  · cases (show RD K H v (.tup ds) from r) with
    | tup hq hr => exact ⟨_, _, rfl, hq, hr⟩
  · cases (show RD K H v (.lst ds) from r) with
    | lst hq hr => exact ⟨_, _, rfl, hq, hr⟩
def iZipX (K : PySem.W.Frag) (la lb : Bool) (ta : TA) : TI := fun σ H R => ta σ H fun vs H1 => ∃ a b xs ys, vs = [.ref a, .ref b] ∧ SqX K H1 la a xs ∧ SqX K H1 lb b ys ∧ R (ItzX K la lb a b) H1
theorem SeqOf.ltD {h : Heap} {l : Bool} {a : Addr} {xs : Array Value} (x : SeqOf h l a xs) : a < h.objs.size := by
  cases l
  · obtain ⟨_, e, _⟩ := (show h.IsTuple a xs from x); exact Heap.lt_size e
  · obtain ⟨_, e, _⟩ := (show h.IsList a xs from x); exact Heap.lt_size e
/-- any of the four mixes -/
def iZipA4 (K : PySem.W.Frag) (ta : TA) : TI := fun σ H R => ta σ H fun vs H1 => ∃ la lb a b xs ys, vs = [.ref a, .ref b] ∧ SqX K H1 la a xs ∧ SqX K H1 lb b ys ∧ R (ItzX K la lb a b) H1
theorem pi_zipX {X : Cx} {e e2 : Expr} {ta : TA} {p pos tpos : Pos} {elts : List Expr} {kk : Nat} (hg : Gl X "zip") (hm : X.mg "zip" = none) (ha : PA X [e, e2] ta)
    (hs : starEach [e, e2] X.env = (false, eval e X.env) :: starEach [e2] X.env := by rfl) (hpl : (backTo pos (starEach [e2] X.env)).any (·.1) = false := by rfl) :
    PI X (.Tuple elts kk tpos) (.Call (.Name "zip" p) [e, e2] [] pos) (iZipA4 X.K ta) := by
  refine ⟨fun pins s σ H R I h => ?_⟩
  refine Call_ (ld_blt I hg hm PyProof.Rows.boot_zip (PyProof.Rows.callWith_type1 (thn (ha.run pos pins s σ H _ I h) fun us s1 ⟨vs, H1, I1, r1, q1⟩ => ?_) hs hpl))
  obtain ⟨la, lb, a, b, xs, ys, ex, hqx, hqy, q⟩ := q1
  subst ex
  cases r1 with
  | cons r rr =>
    cases rr with
    | cons r' rr =>
      cases rr
      cases r
      cases r'
      have fresh5 : ∀ c, c ∈ [s1.heap.objs.size + 4, s1.heap.objs.size + 2, s1.heap.objs.size + 3, s1.heap.objs.size, s1.heap.objs.size + 1] → FpOk X pins H1 c := fun c hcm => by
        have hle : s1.heap.objs.size ≤ c := by
          simp only [List.mem_cons, List.not_mem_nil, or_false] at hcm
          rcases hcm with z | z | z | z | z <;> rw [z] <;> first | exact Nat.le_add_right _ _ | exact Nat.le_refl _
        exact I1.fpOk hle (I1.hok.fresh hle)
      obtain ⟨its, rv, p1, _⟩ := inv_seq I1 hqx
      obtain ⟨its2, rv2, p2, _⟩ := inv_seq I1 hqy
      refine Zg.call_zipT p1 p2 fun h' hz hTI hTO h1 h2 hsz hk => wpAny_pyIter_zip hz ?_
      have I2 : Inv X pins σ H1 { s1 with heap := h' } := I1.kept (t' := s1.toks) hk
      exact ⟨s1.heap.objs.size + 4, [s1.heap.objs.size + 4, s1.heap.objs.size + 2, s1.heap.objs.size + 3, s1.heap.objs.size, s1.heap.objs.size + 1], _, _, H1, rfl, I2, turn_zipX (PySem.W.ktu_apart s1.heap.objs.size a b (SeqOf.ltD p1) (SeqOf.ltD p2)), ⟨hz, hTI, ⟨_, _, hTO⟩, h1, h2⟩, fresh5, q⟩
theorem wk_zipX {K : PySem.W.Frag} {G1 : Gp} {H1 : Hp} {la lb : Bool} {a b : Addr} {xs ys : List V} {ds es : List D} (g : Gd K G1 H1) (h : FzX K H1 la a xs) (h' : FzX K H1 lb b ys) (r : RDs K H1 xs ds) (r' : RDs K H1 ys es) (hz : xs.length ≤ sizeLine) : Wk K (ItzX K la lb a b) (zipD ds es) G1 H1 where
  go := fun G H o i d e => by
    obtain ⟨x, y, ex, ey, rfl⟩ := zip_get e
    have s := o.sb g
    obtain ⟨v, ev, rv⟩ := (r.sb s).get ex
    obtain ⟨w, ew, rw'⟩ := (r'.sb s).get ey
    refine ⟨⟨xs, ys, v, w, (s.x h).sq, (s.x h').sq, ev, ew⟩, fun z H' ⟨T, p, q, e1, hT, e2, e3, e4⟩ => ?_⟩
    subst e1 e2
    have f1 := e3 xs (s.x h).sq
    have f2 := e4 ys (s.x h').sq
    rw [ev] at f1
    rw [ew] at f2
    cases f1
    cases f2
    exact ⟨.new o.gd hT, .tup (.of upd_same) (.cons (rv.sb (sb_new hT)) (.cons (rw'.sb (sb_new hT)) .nil))⟩
  stop := fun G H i o hi => by
    refine ⟨xs, ys, ((o.sb g).x h).sq, ((o.sb g).x h').sq, ?_⟩
    unfold zipD at hi
    rw [List.length_zipWith] at hi
    rw [r.length, r'.length]
    omega
  sz := by
    unfold zipD
    rw [List.length_zipWith, ← r.length]
    omega
theorem szX {K : PySem.W.Frag} {H : Hp} (z : SzH K H) {l : Bool} {a : Addr} {xs : List V} (h : SqX K H l a xs) : xs.length ≤ sizeLine := by
  cases l
  · exact z.2.1 _ _ h
  · exact z.1 _ _ h
@[simp] def sqD : D → Option (Bool × List D)
  | .lst ds => some (true, ds)
  | .tup ds => some (false, ds)
  | _ => none
theorem sqD_mk {d : D} {l : Bool} {ds : List D} (h : sqD d = some (l, ds)) : d = mkX l ds := by
  cases d with
  | lst es =>
    have e : (true, es) = (l, ds) := by simpa [sqD] using h
    cases e; rfl
  | tup es =>
    have e : (false, es) = (l, ds) := by simpa [sqD] using h
    cases e; rfl
  | _ => cases h
@[simp] def dZipX (da : DA) : DI := fun σ G Q => da σ G fun ds G1 => match ds with
  | [x, y] => (match sqD x, sqD y with
    | some (_, xs), some (_, ys) => Q (zipD xs ys) G1
    | _, _ => False)
  | _ => False
section
variable {X : Cx} {e e2 : Expr} {p pos tpos : Pos} {elts : List Expr} {kk : Nat} {da db : DA} {de : DE}
theorem pid_zipX (hm : X.mg "zip" = none) (ha : PDa X [e, e2] da) (hg : Gl X "zip" := by rfl) (hs : starEach [e, e2] X.env = (false, eval e X.env) :: starEach [e2] X.env := by rfl) (hpl : (backTo pos (starEach [e2] X.env)).any (·.1) = false := by rfl) :
    PId X (.Tuple elts kk tpos) (.Call (.Name "zip" p) [e, e2] [] pos) (dZipX da) := by
  obtain ⟨ta, a1, b1⟩ := ha
  refine ⟨_, pi_sz (pi_zipX hg hm a1 hs hpl), fun G H σ σd Qd R g re hd k => ?_⟩
  refine b1 G H σ σd _ _ g re hd fun vs ds G1 H1 o r q => ?_
  split at q
  · rename_i x y
    split at q
    · rename_i l1 xs l2 ys e1 e2
      have m1 := sqD_mk e1
      have m2 := sqD_mk e2
      subst m1 m2
      cases r with
      | cons r rt =>
        cases rt with
        | cons r2 rt =>
          cases rt
          obtain ⟨a, us, rfl, hq, hr⟩ := rd_mkX r
          obtain ⟨b, ws, rfl, hq2, hr2⟩ := rd_mkX r2
          exact ⟨l1, l2, a, b, us, ws, rfl, hq.sq, hq2.sq, fun z => k _ _ _ _ o (wk_zipX o.gd hq hq2 hr hr2 (szX z hq.sq)) q⟩
    · exact q.elim
  · exact q.elim

/-! ### slices, also the whole of a tuple -/
@[simp] def rSlA' : D → Option Int → Option Int → Gp → KD → Prop := fun x lo hi G Q => match asD G x with
  | .tup ds => Q (.tup (cutD ds lo hi)) G
  | .lst ds => Q (.lst (cutD ds lo hi)) G
  | .str s => Q (.str (cutS s lo hi)) G
  | _ => False
@[simp] def dSlA (de : DE) (dl dh : DO) : DE := fun σ G Q => de σ G fun x G1 => dl σ G1 fun lo G2 => dh σ G2 fun hi G3 => rSlA' x lo hi G3 Q
theorem cut_whole {α : Type} {xs : List α} {lo hi : Option Int} (h : HT.sIx xs.length 0 lo = 0 ∧ HT.sIx xs.length xs.length hi = xs.length) : cutD xs lo hi = xs := by
  unfold cutD
  rw [h.1, h.2, List.drop_zero, Nat.sub_zero, List.take_length]
theorem pd_slA {lo hi : Option Expr} {p2 : Pos} {dl dh : DO} (he : PD X e de) (hl : PDo X lo dl) (hh : PDo X hi dh) : PD X (.Subscript e (.Slice lo hi none p2) pos) (dSlA de dl dh) := by
  obtain ⟨te, h1, q1⟩ := he
  obtain ⟨tl, h2, q2⟩ := hl
  obtain ⟨th, h3, q3⟩ := hh
  refine ⟨_, pe_lk (pe_slice (sl_list.or (sl_tupA.or sl_str)) h1 h2 h3), fun G H σ σd Qd Q g re h k => ?_⟩
  refine q1 G H σ σd _ _ g re h fun v d G1 H1 o1 r1 z1 => ?_
  refine q2 G1 H1 σ σd _ _ o1.gd (re.sb (o1.sb g)) z1 fun l G2 H2 o2 z2 => ?_
  have o12 := o1.trans o2
  refine q3 G2 H2 σ σd _ _ o2.gd (re.sb (o12.sb g)) z2 fun u G3 H3 o3 z3 => ?_
  have o123 := o12.trans o3
  have r3 := r1.sb ((o2.trans o3).sb o1.gd)
  unfold rSlA' at z3
  split at z3
  · rename_i ds he
    obtain ⟨a, vs, rfl, hq, hv⟩ := tup_as r3 he
    refine .inr (.inl ⟨a, vs, rfl, hq, fun hw => .inl ?_, fun hw p hp => .inl ?_⟩)
    · rw [hv.length] at hw
      rw [cut_whole hw] at z3
      exact k _ _ _ _ o123 (.tup hq hv) z3
    · exact k _ _ _ _ (o123.trans (.new o3.gd hp)) (.tup (.of upd_same) ((hv.cut l u).sb (sb_new hp))) z3
  · rename_i ds he
    obtain ⟨a, vs, rfl, hq, hv⟩ := sq_as o3.gd r3 he
    refine .inl ⟨a, vs, rfl, hq, fun p hp => .inr ⟨p, _, rfl, upd_same, trivial, fun od => ?_⟩⟩
    have o4 : Go X.K G3 H3 G3 (upd H3 p (.lst (cutV vs l u))) := .new o3.gd hp
    have o5 := (o123.trans o4).lockN (od := od) (o123.th p hp) (o3.gd.none_of hp) upd_same trivial
    exact k _ _ _ _ o5 (.lst (.inl ⟨od, upd_same⟩) (((hv.cut l u).sb (sb_new hp)).sb (sb_lock o4.gd upd_same trivial))) z3
  · rename_i s he
    obtain ⟨rfl, hs⟩ := str_as r3 he
    exact .inr (.inr ⟨s, rfl, hs.1, .inl (k _ _ _ _ o123 (.str (okS_cut hs _ _)) z3)⟩)
  · exact z3.elim

/-! ### minus; wide ints -/
@[simp] def dNeg (de : DE) : DE := fun σ G Q => de σ G fun d G1 => match d with
  | .int i => Q (.int (-i)) G1
  | _ => False
theorem pd_neg (he : PD X e de) : PD X (.UnaryOp .USub e pos) (dNeg de) := by
  obtain ⟨te, a, b⟩ := he
  refine ⟨_, pe_un un_neg a, fun G H σ σd Qd Q g re h k => ?_⟩
  refine b G H σ σd _ _ g re h fun v d G1 H1 o r q => ?_
  cases d <;> first | exact q.elim | skip
  cases r
  exact ⟨_, rfl, k _ _ _ _ o (.int _) q⟩
end
end Dl

end
section
set_option maxHeartbeats 4000000
namespace Dl
open PySem PySem.Spec PyProof.Rows L2

/-! ### what is told is locked: data from then on -/
mutual
def D.mp (s : Addr → D) : D → D
  | .ref b => s b
  | .tup ds => .tup (D.mps s ds)
  | .lst ds => .lst (D.mps s ds)
  | .dic ks => .dic (D.mpk s ks)
  | .non => .non
  | .bl b => .bl b
  | .int i => .int i
  | .str t => .str t
  | .ty n => .ty n
def D.mps (s : Addr → D) : List D → List D
  | [] => []
  | d :: r => d.mp s :: D.mps s r
def D.mpk (s : Addr → D) : List (Key × D) → List (Key × D)
  | [] => []
  | p :: r => D.mpp s p :: D.mpk s r
def D.mpp (s : Addr → D) : Key × D → Key × D
  | (k, d) => (k, d.mp s)
end
def at1 (a : Addr) (x : D) : Addr → D := fun b => if b = a then x else .ref b
abbrev D.sub (a : Addr) (x d : D) : D := d.mp (at1 a x)
abbrev D.subs (a : Addr) (x : D) (ds : List D) : List D := D.mps (at1 a x) ds
abbrev D.subk (a : Addr) (x : D) (ks : List (Key × D)) : List (Key × D) := D.mpk (at1 a x) ks
mutual
theorem RD.sub {K : PySem.W.Frag} {H : Hp} {a : Addr} {x : D} (h : RD K H (.ref a) x) : ∀ {v : V} {d : D}, RD K H v d → RD K H v (D.sub a x d)
  | _, _, .non => .non
  | _, _, .bl b => .bl b
  | _, _, .int i => .int i
  | _, _, .str o => .str o
  | _, _, .ty n => .ty n
  | _, _, .ref b => by
    show RD K H (.ref b) (if b = a then x else D.ref b)
    by_cases e : b = a
    · rw [if_pos e, e]; exact h
    · rw [if_neg e]; exact .ref b
  | _, _, .tup q r => .tup q (RDs.sub h r)
  | _, _, .lst q r => .lst q (RDs.sub h r)
  | _, _, .dic q r => .dic q (RDk.sub h r)
theorem RDs.sub {K : PySem.W.Frag} {H : Hp} {a : Addr} {x : D} (h : RD K H (.ref a) x) : ∀ {vs : List V} {ds : List D}, RDs K H vs ds → RDs K H vs (D.subs a x ds)
  | _, _, .nil => .nil
  | _, _, .cons q r => .cons (RD.sub h q) (RDs.sub h r)
theorem RDk.sub {K : PySem.W.Frag} {H : Hp} {a : Addr} {x : D} (h : RD K H (.ref a) x) : ∀ {vs : List (Key × V)} {ds : List (Key × D)}, RDk K H vs ds → RDk K H vs (D.subk a x ds)
  | _, _, .nil => .nil
  | _, _, .cons o q r => .cons o (RD.sub h q) (RDk.sub h r)
end
def MO.sub (a : Addr) (x : D) : MO → MO
  | .lst ds => .lst (D.subs a x ds)
  | .dic ks => .dic (D.subk a x ks)
@[simp] def MO.toD : MO → D
  | .lst ds => .lst ds
  | .dic ks => .dic ks
def subG (a : Addr) (x : D) (G : Gp) : Gp := fun b => (G b).map (MO.sub a x)
def subSd (a : Addr) (x : D) (σ : Sd) : Sd := σ.map fun o => o.map fun d => D.sub a x d
/-- a is locked -/
def lkG (G : Gp) (a : Addr) (m : MO) : Gp := subG a m.toD (delG G a)
theorem RE.sub {K : PySem.W.Frag} {H : Hp} {a : Addr} {x : D} {σ : L2.St} {σd : Sd} (h : RD K H (.ref a) x) (r : RE K H σ σd) : RE K H σ (subSd a x σd) := by
  refine ⟨by unfold subSd; rw [List.length_map]; exact r.len, fun i d e => ?_⟩
  unfold subSd at e
  rw [List.getElem?_map] at e
  cases q : σd[i]? with
  | none => rw [q] at e; cases e
  | some z =>
    rw [q] at e
    cases z with
    | none => cases e
    | some y =>
      cases e
      obtain ⟨v, ev, rv⟩ := r.get i y q
      exact ⟨v, ev, RD.sub h rv⟩
theorem RM.sub {K : PySem.W.Frag} {H : Hp} {a b : Addr} {x : D} {m : MO} (h : RD K H (.ref a) x) (r : RM K H b m) : RM K H b (m.sub a x) := by
  cases m with
  | lst ds => obtain ⟨vs, e, q⟩ := r; exact ⟨vs, e, RDs.sub h q⟩
  | dic ds => obtain ⟨vs, e, q⟩ := r; exact ⟨vs, e, RDk.sub h q⟩
theorem rd_locked {K : PySem.W.Frag} {G : Gp} {H : Hp} {a : Addr} {m : MO} (g : Gd K G H) (e : G a = some m) : ∃ u, H a = some u ∧ Mut (some u) ∧ ∀ od, RD K (upd H a (.frz od u)) (.ref a) m.toD := by
  have r := g a m e
  cases m with
  | lst ds =>
    obtain ⟨vs, q, hr⟩ := r
    exact ⟨_, q, trivial, fun od => .lst (.inl ⟨od, upd_same⟩) (hr.sb (sb_write g e))⟩
  | dic ds =>
    obtain ⟨vs, q, hr⟩ := r
    exact ⟨_, q, trivial, fun od => .dic upd_same (hr.sb (sb_write g e))⟩
theorem Go.lockS {K : PySem.W.Frag} {G : Gp} {H : Hp} {a : Addr} {m : MO} {u : HO} {od : Obj} (g : Gd K G H) (e : G a = some m) (h : H a = some u) (r : RD K (upd H a (.frz od u)) (.ref a) m.toD) : Go K G H (lkG G a m) (upd H a (.frz od u)) := by
  have o := Go.lock (ob := od) g e h
  refine ⟨o.fr, fun b q n => ?_, o.th, fun b m' q => ?_⟩
  · unfold lkG subG
    rw [o.nw b q n]; rfl
  · unfold lkG subG at q
    cases z : delG G a b with
    | none => rw [z] at q; cases q
    | some m2 =>
      rw [z] at q
      cases q
      exact RM.sub r (o.gd b m2 z)
inductive LkTo (Q : Sd → Gp → Prop) : Sd → Gp → Prop
  | done {σ : Sd} {G : Gp} : Q σ G → LkTo Q σ G
  | step {σ : Sd} {G : Gp} (a : Addr) (m : MO) : G a = some m → LkTo Q (subSd a m.toD σ) (lkG G a m) → LkTo Q σ G
  | stepD {σ : Sd} {G : Gp} (a : Addr) (m : MO) : G a = some m → LkTo Q (subSd a m.toD σ) (delG G a) → LkTo Q σ G
inductive LkV (Q : KD) : D → Gp → Prop
  | done {d : D} {G : Gp} : Q d G → LkV Q d G
  | step {d : D} {G : Gp} (a : Addr) (m : MO) : G a = some m → LkV Q (D.sub a m.toD d) (lkG G a m) → LkV Q d G
  | stepD {d : D} {G : Gp} (a : Addr) (m : MO) : G a = some m → LkV Q (D.sub a m.toD d) (delG G a) → LkV Q d G
inductive LkH {α : Type} (Q : α → Hp → Prop) : α → Hp → Prop
  | done {σ : α} {H : Hp} : Q σ H → LkH Q σ H
  | step {σ : α} {H : Hp} (a : Addr) (u : HO) : H a = some u → Mut (some u) → (∀ od, LkH Q σ (upd H a (.frz od u))) → LkH Q σ H
theorem lkH_inv {X : Cx} {pins : List (Addr × Obj)} {s : Shared} {σ : L2.St} {α : Type} {Q : α → Hp → Prop} {x : α} {H : Hp} (h : LkH Q x H) (I : Inv X pins σ H s) : ∃ H', Inv X pins σ H' s ∧ Q x H' := by
  induction h with
  | done q => exact ⟨_, I, q⟩
  | step a u hu mu _ ih =>
    obtain ⟨od, I2⟩ := I.lock hu mu
    exact ih od I2
section
variable {X : Cx} {st : Stmt} {e : Expr}
theorem ps_lkn {t : TS} (h : PS X st t) : PS X st (fun D σ H => t { nx := fun σ' H1 => LkH D.nx σ' H1, rt := D.rt, bk := D.bk, ct := D.ct } σ H) := by
  refine ⟨fun pins s σ H D I q => ?_⟩
  refine thn (h.run pins s σ H _ I q) fun f s1 r => ?_
  cases f with
  | next =>
    obtain ⟨σ', H', I', q⟩ := r
    obtain ⟨H2, I2, q2⟩ := lkH_inv q I'
    exact ⟨σ', H2, I2, q2⟩
  | ret v => exact r
  | brk => exact r
  | cont => exact r
theorem pe_lkn {te : TE} (h : PE X e te) : PE X e (fun σ H Q => te σ H fun v H1 => LkH Q v H1) := by
  refine ⟨fun pins s σ H Q I hq => thn (h.run pins s σ H _ I hq) fun v s1 ⟨x, H1, I1, r1, q⟩ => ?_⟩
  obtain ⟨H2, I2, q2⟩ := lkH_inv q I1
  exact ⟨x, H2, I2, r1, q2⟩
theorem lkTo_H {K : PySem.W.Frag} {Qd : Sd → Gp → Prop} {σd : Sd} {G : Gp} (h : LkTo Qd σd G) : ∀ {σ : L2.St} {H : Hp} {Q : L2.St → Hp → Prop}, Gd K G H → RE K H σ σd → (∀ σ' σd' G' H', Go K G H G' H' → RE K H' σ' σd' → Qd σd' G' → Q σ' H') → LkH Q σ H := by
  induction h with
  | done q => exact fun {σ H Q} g re k => .done (k _ _ _ _ (.refl g) re q)
  | step a m e _ ih =>
    intro σ H Q g re k
    obtain ⟨u, hu, mu, r⟩ := rd_locked g e
    refine .step a u hu mu fun od => ?_
    have o := Go.lockS (od := od) g e hu (r od)
    exact ih o.gd (RE.sub (r od) (re.sb (o.sb g))) fun σ' σd' G' H' o2 re' q => k σ' σd' G' H' (o.trans o2) re' q
  | stepD a m e _ ih =>
    intro σ H Q g re k
    obtain ⟨u, hu, mu, r⟩ := rd_locked g e
    refine .step a u hu mu fun od => ?_
    have o := Go.lock (ob := od) g e hu
    exact ih o.gd (RE.sub (r od) (re.sb (o.sb g))) fun σ' σd' G' H' o2 re' q => k σ' σd' G' H' (o.trans o2) re' q
theorem lkV_H {K : PySem.W.Frag} {Qd : KD} {d : D} {G : Gp} (h : LkV Qd d G) : ∀ {v : V} {H : Hp} {Q : VK}, Gd K G H → RD K H v d → (∀ v d G' H', Go K G H G' H' → RD K H' v d → Qd d G' → Q v H') → LkH Q v H := by
  induction h with
  | done q => exact fun {v H Q} g r k => .done (k _ _ _ _ (.refl g) r q)
  | step a m e _ ih =>
    intro v H Q g r k
    obtain ⟨u, hu, mu, rl⟩ := rd_locked g e
    refine .step a u hu mu fun od => ?_
    have o := Go.lockS (od := od) g e hu (rl od)
    exact ih o.gd (RD.sub (rl od) (r.sb (o.sb g))) fun v' d' G' H' o2 r' q => k v' d' G' H' (o.trans o2) r' q
  | stepD a m e _ ih =>
    intro v H Q g r k
    obtain ⟨u, hu, mu, rl⟩ := rd_locked g e
    refine .step a u hu mu fun od => ?_
    have o := Go.lock (ob := od) g e hu
    exact ih o.gd (RD.sub (rl od) (r.sb (o.sb g))) fun v' d' G' H' o2 r' q => k v' d' G' H' (o.trans o2) r' q
/-- behind a statement, things may be locked -/
def dLk (ds : DS) : DS := fun Dd σ G => ds { Dd with nx := fun σ' G' => LkTo Dd.nx σ' G' } σ G
theorem psd_lk {ds : DS} (h : PSd X st ds) : PSd X st (dLk ds) := by
  obtain ⟨ts, a, b⟩ := h
  refine ⟨_, ps_lkn a, fun G H σ σd Dd D g re h c => ?_⟩
  exact b G H σ σd _ _ g re h ⟨fun σ' σd' G' H' o re' q => lkTo_H q o.gd re' fun σ2 σd2 G2 H2 o2 re2 q2 => c.nx _ _ _ _ (o.trans o2) re2 q2, c.rt, c.bk, c.ct⟩
/-- a value, locked -/
def dLkE (de : DE) : DE := fun σ G Q => de σ G fun d G1 => LkV Q d G1
theorem pd_lk {de : DE} (h : PD X e de) : PD X e (dLkE de) := by
  obtain ⟨te, a, b⟩ := h
  refine ⟨_, pe_lkn a, fun G H σ σd Qd Q g re h k => ?_⟩
  exact b G H σ σd _ _ g re h fun v d G1 H1 o r q => lkV_H q o.gd r fun v' d' G' H' o2 r' q' => k v' d' G' H' (o.trans o2) r' q'
/-! ### what cannot be reached -/
@[simp] def dNo : DE := fun _ _ _ => False
theorem pd_no : PD X e dNo := ⟨fun _ _ _ => False, ⟨fun pins s σ H Q I h => h.elim⟩, fun G H σ σd Qd Q g re h k => h.elim⟩
/-! ### forgetting -/
def FgQ (Q : KD) : KD := fun d G => ∃ G2, (∀ a m, G2 a = some m → G a = some m) ∧ Q d G2
theorem FgQ.of {Q : KD} {d : D} {G : Gp} (h : Q d G) : FgQ Q d G := ⟨G, fun _ _ e => e, h⟩
end
/-- THE RULE for a def, what is left over forgotten -/
theorem has_fg {P : Program} {w : World} {K : PySem.W.Frag} {mg : Str → Option Value} {base : Heap} {k : Nat} {x : Str} {st : Stmt} {N ps : List Str} {sd : SpD} {b : DS} {f : Addr} {fd : FuncData} (F : FunD K x x (defArgs st) (defBody st) (defScope st) [] [] f fd) (hm : mg x = some (.ref f))
    (hb : ∀ (kV doc pm : Value) (an : Option Addr) (cdv ct : Value) (us : List Value), us.length = ps.length → bindArgs (PySem.W.fnOf x x (defArgs st) (defBody st) (defScope st) .none kV doc pm an cdv ct) ⟨us, []⟩ = pure (ps.zip us))
    (S : FnScope N ps (defScope st)) (len : ∀ ds G Q, sd ds G Q → ds.length = ps.length)
    (walk : ∀ (cdv : Value) (A : Around) (outer : List Env) (s : Shared) (H : Hp) (E : XK), Room k (A.deeper (envOfC x (defScope st) s.heap.objs.size f cdv)) → PSsd (cxOf CX0 P w K mg base N x (defScope st) f cdv A outer s H E).nox (defBody st) b)
    (read : ∀ ds G Q, sd ds G Q → b { nx := fun _ G' => FgQ Q .non G', rt := FgQ Q } (startD N ds) G) : Has P w K mg base (k + 1) x st ps sd := by
  refine ⟨f, fd, hm, F, F.bindsN hb, F.ok S (fun vs H Q E ⟨ds, G, Qd, g, r, h, _⟩ => by rw [r.length]; exact len ds G Qd h) fun cdv A outer s H vs Q E hr ⟨ds, G, Qd, g, r, h, kk⟩ => ?_⟩
  obtain ⟨t, a, ab⟩ := walk cdv A outer s H E hr
  refine ⟨t, a.nox, ab G H _ _ { nx := fun _ G' => FgQ Qd .non G', rt := FgQ Qd } _ g (re_start r) (read ds G Qd h) ⟨fun σ' σd' G' H' o re ⟨G2, f2, q⟩ => kk _ _ _ _ (o.forget f2) .non q, fun v d G' H' o rv ⟨G2, f2, q⟩ => kk _ _ _ _ (o.forget f2) rv q, fun σ' σd' G' H' o re q => q.elim, fun σ' σd' G' H' o re q => q.elim⟩⟩
/-- nothing is promised -/
theorem has_no {P : Program} {w : World} {K : PySem.W.Frag} {mg : Str → Option Value} {base : Heap} {k : Nat} {x : Str} {st : Stmt} {N ps : List Str} {f : Addr} {fd : FuncData} (F : FunD K x x (defArgs st) (defBody st) (defScope st) [] [] f fd) (hm : mg x = some (.ref f))
    (hb : ∀ (kV doc pm : Value) (an : Option Addr) (cdv ct : Value) (us : List Value), us.length = ps.length → bindArgs (PySem.W.fnOf x x (defArgs st) (defBody st) (defScope st) .none kV doc pm an cdv ct) ⟨us, []⟩ = pure (ps.zip us))
    (S : FnScope N ps (defScope st)) : Has P w K mg base (k + 1) x st ps (fun _ _ _ => False) := by
  refine ⟨f, fd, hm, F, F.bindsN hb, F.ok S (fun vs H Q E ⟨ds, G, Qd, g, r, h, _⟩ => h.elim) fun cdv A outer s H vs Q E hr ⟨ds, G, Qd, g, r, h, kk⟩ => h.elim⟩
/-! ### loops and comprehensions read -/
theorem forGo_inv {dg : DG} {db : DS} {Dd : DEnds} (Inv : List D → Sd → Gp → Prop) (fin : ∀ σ G, Inv [] σ G → Dd.nx σ G)
    (step : ∀ x r σ G (N : Sd → Gp → Prop), Inv (x :: r) σ G → (∀ σ' G', Inv r σ' G' → N σ' G') → dg x σ G fun σ1 G1 => db { Dd with nx := N, ct := N, bk := Dd.nx } σ1 G1) :
    ∀ items σ G, Inv items σ G → forGo dg db Dd items σ G
  | [], σ, G, h => fin σ G h
  | x :: r, σ, G, h => step x r σ G _ h fun σ' G' h' => forGo_inv Inv fin step r σ' G' h'
theorem lcGo_pure {dg : DG} {de : DE} {vs : List Nat} {σ : Sd} {G : Gp} (f : D → D) : ∀ {xs : List D} {Q : KDs}, (∀ x ∈ xs, ∀ Q : KD, Q (f x) G → dg x (wipeD σ vs) G fun σ1 G1 => de σ1 G1 Q) → Q (xs.map f) G → lcGo dg dYes de vs σ xs G Q
  | [], Q, _, q => q
  | x :: r, Q, h, q => by
    show dg x (wipeD σ vs) G fun σ1 G1 => dYes σ1 G1 fun b G2 => if b = true then de σ1 G2 fun y G3 => lcGo dg dYes de vs σ r G3 fun ys G4 => Q (y :: ys) G4 else lcGo dg dYes de vs σ r G2 Q
    exact h x List.mem_cons_self _ (lcGo_pure f (fun y hy => h y (List.mem_cons_of_mem _ hy)) q)
theorem lcGo_inv {dg : DG} {dt : DT} {de : DE} {vs : List Nat} {σ : Sd} {Q : KDs} (Inv : List D → List D → Gp → Prop) (fin : ∀ acc G, Inv [] acc G → Q acc G)
    (step : ∀ x r acc G (N : D → Gp → Prop) (M : Gp → Prop), Inv (x :: r) acc G → (∀ y G', Inv r (acc ++ [y]) G' → N y G') → (∀ G', Inv r acc G' → M G') → dg x (wipeD σ vs) G fun σ1 G1 => dt σ1 G1 fun b G2 => if b = true then de σ1 G2 N else M G2) :
    ∀ items acc G, Inv items acc G → lcGo dg dt de vs σ items G fun ys G' => Q (acc ++ ys) G'
  | [], acc, G, h => by
    show Q (acc ++ []) G
    rw [List.append_nil]; exact fin acc G h
  | x :: r, acc, G, h => by
    refine step x r acc G _ _ h (fun y G' h' => ?_) fun G' h' => lcGo_inv Inv fin step r acc G' h'
    have q := lcGo_inv Inv fin step r (acc ++ [y]) G' h'
    have ef : (fun ys G' => Q (acc ++ [y] ++ ys) G') = fun (ys : List D) (G' : Gp) => Q (acc ++ (y :: ys)) G' := by
      funext ys G'
      rw [List.append_assoc]; rfl
    rw [ef] at q
    exact q
end Dl

end
section
set_option maxHeartbeats 4000000
namespace Dl
open PySem PySem.Spec PyProof.Rows L2
@[simp] theorem flatD_non : flatD .non = true := rfl
@[simp] theorem flatD_bl {b : Bool} : flatD (.bl b) = true := rfl
@[simp] theorem flatD_int {i : Int} : flatD (.int i) = true := rfl
@[simp] theorem flatD_str {s : Str} : flatD (.str s) = true := rfl
@[simp] theorem isNonD_non : isNonD .non = true := rfl
@[simp] theorem isNonD_bl {b : Bool} : isNonD (.bl b) = false := rfl
@[simp] theorem isNonD_int {i : Int} : isNonD (.int i) = false := rfl
@[simp] theorem isNonD_str {s : Str} : isNonD (.str s) = false := rfl
@[simp] theorem isNonD_tup {s : List D} : isNonD (.tup s) = false := rfl
@[simp] theorem isNonD_lst {s : List D} : isNonD (.lst s) = false := rfl
@[simp] theorem isNonD_dic {s : List (Key × D)} : isNonD (.dic s) = false := rfl
@[simp] theorem isBl_bl {b : Bool} : isBl (.bl b) = true := rfl
@[simp] theorem asBl_bl {b : Bool} : asBl (.bl b) = b := rfl
@[simp] theorem isIntD_int {i : Int} : isIntD (.int i) = true := rfl
@[simp] theorem asInt_int {i : Int} : asInt (.int i) = i := rfl
@[simp] theorem isStrD_str {s : Str} : isStrD (.str s) = true := rfl
@[simp] theorem asStr_str {s : Str} : asStr (.str s) = s := rfl
section
variable {X : Cx} {e a : Expr} {de : DE} {p p2 q pos pos' : Pos}
/-! ### sorted(set(xs)), xs ints -/
def tSortSet (K : PySem.W.Frag) (te : TE) : TE := fun σ H Q => te σ H fun x H1 => ∃ (l : Addr) (ns : List Int), x = .ref l ∧ SqL K H1 l (ns.map V.int) ∧ ns.length < 64 ∧
  ∀ (ms : List Int) (r : Addr), ms.Pairwise (· < ·) → (∀ k : Int, k ∈ ms ↔ k ∈ ns) → H1 r = none → Q (.ref r) (upd H1 r (.lst (ms.map V.int)))
theorem pe_sortSet {te : TE} (hc : X.calm = true) (hm : X.mg "sorted" = none) (hm2 : X.mg "set" = none) (he : PE X e te) (hg : Gl X "sorted" := by rfl) (hg2 : Gl X "set" := by rfl)
    (hv : bootBuiltins "sorted" = some (.builtin "sorted") := by decide +kernel) (na : starEach [e] X.env = (false, eval e X.env) :: starEach [] X.env := by rfl)
    (hs : starEach [.Call (.Name "set" p2) [e] [] q] X.env = (false, eval (.Call (.Name "set" p2) [e] [] q) X.env) :: starEach [] X.env := by rfl) :
    PE X (.Call (.Name "sorted" p) [.Call (.Name "set" p2) [e] [] q] [] pos) (tSortSet X.K te) := by
  refine ⟨fun pins s σ H Q I h => ?_⟩
  refine Call_ (ld_blt I hg hm hv ?_)
  refine PyProof.Rows.callWith_builtin1 (PyProof.Rows.args_cons ?_ hs) hs rfl
  refine Call_ (ld_blt I hg2 hm2 PyProof.Rows.boot_set ?_)
  refine PyProof.Rows.callWith_type1 (PyProof.Rows.args_cons (thn (he.run pins s σ H _ I h) fun v s1 ⟨x, H1, I1, r1, q1⟩ => PyProof.Rows.args_nil ?_) na) na rfl
  obtain ⟨l, ns, rfl, hq, h64, q1⟩ := q1
  cases r1
  obtain ⟨its, r, pl, hz⟩ := I1.list hq
  refine Dl.call_set_listI ns (I1.ok.hd hc) pl.isList (by simpa using r.ints) (by unfold scanBound; omega) fun h' tk c R hc' hk => ?_
  refine PyProof.Rows.args_nil ?_
  have I2 : Inv X pins σ H1 { s1 with heap := h', toks := tk } := I1.kept (t' := tk) hk
  replace R : SetR X.w ({ s1 with heap := h', toks := tk } : Shared).heap s1.heap.objs.size (fun j => decide (j ∈ ns)) c := R
  generalize ({ s1 with heap := h', toks := tk } : Shared) = s2 at R I2 ⊢
  refine sorted_set R (I1.ok.hd hc) (by omega) fun s' pp out cc ms k g o hp hgt hi hss hmm hl => ?_
  have hlen : (ms.map V.int).length ≤ sizeLine := by rw [List.length_map, hl, sizeLine_eq]; omega
  have hn : H1 pp = none := I2.hok.fresh hp
  have J : Inv X pins σ (upd H1 pp (.lst (ms.map V.int))) { s2 with heap := s'.heap, gens := s'.gens, drawn := s'.drawn, toks := s'.toks } :=
    I2.call (ch := []) (Un.laid k hp hn) (I2.hok.laid k hp ⟨hlen, out.toList, cc, vals_of_ints hi, hgt⟩) (by rw [g]; exact I2.bare) (fun _ z => nomatch z)
  have e' : s' = { s2 with heap := s'.heap, gens := s'.gens, drawn := s'.drawn, toks := s'.toks } := by
    cases s'
    cases s2
    cases o
    rfl
  rw [e']
  exact ⟨.ref pp, _, J, rfl, q1 ms pp hss (fun kk => by rw [hmm kk]; simp) hn⟩
@[simp] def dSortSet (de : DE) : DA := fun σ G Q => de σ G fun x G1 => ∃ es, asD G1 x = .lst es ∧ es.all isIntD = true ∧ es.length < 64 ∧ ∀ ms : List Int, ms.Pairwise (· < ·) → (∀ k : Int, k ∈ ms ↔ k ∈ es.map asInt) → Q (ms.map D.int) G1
theorem pl_sortSet (hc : X.calm = true) (hm : X.mg "sorted" = none) (hm2 : X.mg "set" = none) (he : PD X e de) (hg : Gl X "sorted" := by rfl) (hg2 : Gl X "set" := by rfl)
    (hv : bootBuiltins "sorted" = some (.builtin "sorted") := by decide +kernel) (na : starEach [e] X.env = (false, eval e X.env) :: starEach [] X.env := by rfl)
    (hs : starEach [.Call (.Name "set" p2) [e] [] q] X.env = (false, eval (.Call (.Name "set" p2) [e] [] q) X.env) :: starEach [] X.env := by rfl) :
    PDl X (.Call (.Name "sorted" p) [.Call (.Name "set" p2) [e] [] q] [] pos) (dSortSet de) := by
  obtain ⟨te, a1, b1⟩ := he
  refine ⟨_, pe_sortSet hc hm hm2 a1 hg hg2 hv na hs, fun G H σ σd Qd Q g re h k => ?_⟩
  refine b1 G H σ σd _ _ g re h fun v d G1 H1 o r ⟨es, ee, hb, h64, q⟩ => ?_
  obtain ⟨l, ws, rfl, hq, hv⟩ := sq_as o.gd r ee
  have e2 := ints_of hv hb
  subst e2
  refine ⟨l, es.map asInt, rfl, hq, by rw [List.length_map]; exact h64, fun ms r' h1 h2 hn => ?_⟩
  exact k r' _ _ _ _ (o.trans (.new o.gd hn)) (o.gd.none_of hn) (o.th r' hn) upd_same (rds_ints ms) (q ms h1 h2)
/-! ### list(range(a)), list(range(a, b)), tuple(range(..)) -/
@[simp] def dListRg1 (de : DE) : DA := fun σ G Q => de σ G fun x G1 => ∃ n : Int, x = .int n ∧ -100000 ≤ n ∧ n ≤ 100000 ∧ Q (rangeD 0 n.toNat) G1
theorem rgV_rd {K : PySem.W.Frag} {H : Hp} (lo hi : Int) : RDs K H (rgV lo hi) (rangeD lo (hi - lo).toNat) := by
  unfold rgV rangeD
  generalize List.range (hi - lo).toNat = l
  induction l with
  | nil => exact .nil
  | cons i r ih => exact .cons (.int _) ih
theorem pl_listRg1 (hc : X.calm = true) (hm : X.mg "list" = none) (hm2 : X.mg "range" = none) (he : PD X e de) (hg : Gl X "list" := by rfl) (hg2 : Gl X "range" := by rfl) (na : starEach [e] X.env = (false, eval e X.env) :: starEach [] X.env := by rfl)
    (hs : starEach [.Call (.Name "range" p2) [e] [] q] X.env = (false, eval (.Call (.Name "range" p2) [e] [] q) X.env) :: starEach [] X.env := by rfl) :
    PDl X (.Call (.Name "list" p) [.Call (.Name "range" p2) [e] [] q] [] pos) (dListRg1 de) := by
  obtain ⟨te, a1, b1⟩ := he
  refine ⟨_, pe_listRg hc hg hm (prg_1 hg2 hm2 a1 na) hs, fun G H σ σd Qd Q g re h k => ?_⟩
  refine b1 G H σ σd _ _ g re h fun v d G1 H1 o r ⟨n, en, h1, h2, q⟩ => ?_
  subst en
  cases r
  refine ⟨n, rfl, ⟨by omega, by omega, by omega, by omega, by omega⟩, fun r' hn => ?_⟩
  have e0 : (n - 0 : Int).toNat = n.toNat := by rw [Int.sub_zero]
  have rr := rgV_rd (K := X.K) (H := upd H1 r' (.lst (rgV 0 n))) 0 n
  rw [e0] at rr
  exact k r' _ _ _ _ (o.trans (.new o.gd hn)) (o.gd.none_of hn) (o.th r' hn) upd_same rr q
/-! ### d == {} -/
@[simp] def rEqE : D2 := fun x y G Q => ∃ ks, asD G x = .dic ks ∧ asD G y = .dic [] ∧ Q (.bl ks.isEmpty) G
theorem op_eqE (hu : X.A.units < cLine) : OpR X (compareOp .Eq) (fun x y H Q => ∃ a b kvs, x = .ref a ∧ y = .ref b ∧ Rd H a (.dK kvs) ∧ Rd H b (.dK []) ∧ Q (.bl kvs.isEmpty) H) := by
  intro pins s σ H x y v u Q I rx ry h
  obtain ⟨a, b, kvs, rfl, rfl, ea, eb, q⟩ := h
  obtain rfl : v = Value.ref a := rx
  obtain rfl : u = Value.ref b := ry
  obtain ⟨_, ya, va, ra, da⟩ := dk_rd I.hok ea
  obtain ⟨_, yb, vb, rb, db⟩ := dk_rd I.hok eb
  cases rb
  have hl := ra.length
  refine PySem.W.keq_eq (knd := mixKind X.prog X.w) (r := true) ya yb da db hu (fun z => ?_) (fin_bl I q ?_)
  · have e : va = [] := List.eq_nil_of_length_eq_zero z
    rw [e]
    exact .nil
  · cases kvs with
    | nil => cases ra; rfl
    | cons p r => cases ra; rfl
theorem ab_eqE {K : PySem.W.Frag} : Ab2 K (fun x y H Q => ∃ a b kvs, x = .ref a ∧ y = .ref b ∧ Rd H a (.dK kvs) ∧ Rd H b (.dK []) ∧ Q (.bl kvs.isEmpty) H) rEqE := by
  rintro G H x y d e Qd Q gd rx ry ⟨ks, e1, e2, q⟩ k
  obtain ⟨a, vs, rfl, hd, hv⟩ := dk_as gd rx e1
  obtain ⟨b, ws, rfl, hd2, hv2⟩ := dk_as gd ry e2
  cases hv2
  refine ⟨a, b, vs, rfl, rfl, hd, hd2, ?_⟩
  have e3 : vs.isEmpty = ks.isEmpty := by cases hv <;> rfl
  rw [e3]
  exact k _ _ G H (.refl gd) (.bl _) q
theorem pd_eqE {b : Expr} {db : DE} (hu : X.A.units + 64 < cLine) (ha : PD X a de) (hb : PD X b db)   : PD X (.Compare a [.Eq] [b] pos) (dOp rEqE de db) := pd_cmp (op_eqE (by omega)) ab_eqE ha hb (nomark _)
theorem pt_eqE {b : Expr} {db : DE} (hu : X.A.units + 64 < cLine) (ha : PD X a de) (hb : PD X b db) : PDt X (.Compare a [.Eq] [b] pos) (dB (dOp rEqE de db)) := pt_cmpD (op_eqE (by omega)) ab_eqE ha hb (nomark _)
/-! ### powers of wide ints; * of wide ints -/
def CPowW (i j : Int) : Prop := 0 ≤ j ∧ (Builtin.Int.intBits i : Int) * j ≤ 2 ^ 27
theorem op_powW : OpR X (binaryOp .Pow) (rI CPowW fun i j => .int (i ^ j.toNat)) := opI fun _ _ _ _ _ _ _ hc q => pow_int hc.1 hc.2 q
@[simp] def rPowWD : D2
  | .int i, .int j, G, Q => CPowW i j ∧ Q (.int (i ^ j.toNat)) G
  | _, _, _, _ => False
theorem pd_powW {b : Expr} {db : DE} (ha : PD X a de) (hb : PD X b db) : PD X (.BinOp a .Pow b pos) (dOp rPowWD de db) := pd_op op_powW (abI fun x y G Q h => by cases x <;> cases y <;> first | exact h.elim | exact ⟨_, _, rfl, rfl, h.1, h.2⟩) ha hb
/-- a global constant of data -/
theorem pd_gtup {x : Str} {d : D} (hg : Gl X x) (hm : ∃ a, X.mg x = some (.ref a) ∧ ∀ H, RD X.K H (.ref a) d) (hd : (x == ("__debug__" : Str)) = false := by decide) : PD X (.Name x pos) (dC d) := by
  obtain ⟨a, h1, h2⟩ := hm
  exact pd_glo hg h1 h2 hd
end
end Dl

end
section
set_option maxHeartbeats 0
namespace Hd
open PySem PySem.Spec PyProof.Rows L2
def topS (i : Nat) : Stmt := PySem.Challenge.pw_toldmoment_k05_whole_what_lies_under_key.main.body.getD i (.Pass ⟨0, 0, 0, 0⟩)
abbrev s_is_whole : Stmt := topS 14
abbrev s_is_integer : Stmt := topS 15
abbrev s_is_tuple : Stmt := topS 16
abbrev s_is_string : Stmt := topS 17
abbrev s_are_ascending : Stmt := topS 18
abbrev s_are_unlike : Stmt := topS 19
abbrev s_is_name : Stmt := topS 20
abbrev s_is_key : Stmt := topS 21
abbrev s_is_text_value : Stmt := topS 22
abbrev s_is_of_kind : Stmt := topS 23
abbrev s_are_values : Stmt := topS 24
abbrev s_are_columns : Stmt := topS 25
abbrev s_is_schema : Stmt := topS 26
abbrev s_are_rows : Stmt := topS 27
abbrev s_is_state : Stmt := topS 28
abbrev s_are_key_rows : Stmt := topS 29
abbrev s_check_schema : Stmt := topS 38
abbrev s_check_state : Stmt := topS 40
abbrev s_empty_state : Stmt := topS 41
abbrev s_tables_in : Stmt := topS 42
abbrev s_state_of : Stmt := topS 43
abbrev s_check_key : Stmt := topS 44
abbrev s_keys_of : Stmt := topS 45
abbrev s_row_in : Stmt := topS 46
abbrev s_rows_under : Stmt := topS 47
abbrev s_key_rows : Stmt := topS 48
abbrev s_state_with : Stmt := topS 49
abbrev s_with_key_rows : Stmt := topS 50
abbrev s__law_pot : Stmt := topS 52
abbrev s__law_take : Stmt := topS 53
abbrev s__law_of : Stmt := topS 54
abbrev s__law_some : Stmt := topS 55
abbrev s__law_cells : Stmt := topS 56
abbrev s__law_is_int : Stmt := topS 57
abbrev s__law_state_is_text : Stmt := topS 58
abbrev s__law_state_is_of : Stmt := topS 59
abbrev s__law_state_are_values : Stmt := topS 60
abbrev s__law_state_copy : Stmt := topS 61
abbrev s__law_state_schema : Stmt := topS 62
abbrev s__law_state_told : Stmt := topS 63
abbrev s__law_state_keyed : Stmt := topS 64
abbrev s__law_state_changed : Stmt := topS 65
abbrev s__law_state_dealt : Stmt := topS 66
abbrev s__law_state_keys : Stmt := topS 67
abbrev s__law_state_value_drawn : Stmt := topS 68
abbrev s__law_state_values_drawn : Stmt := topS 69
abbrev s__law_state_columns_drawn : Stmt := topS 70
abbrev s__law_state_changes_drawn : Stmt := topS 71
abbrev s__law_same : Stmt := topS 72
abbrev s__law_rows_drawn : Stmt := topS 73
abbrev s__law_laid : Stmt := topS 74
abbrev s__law_are_keys_right : Stmt := topS 75
abbrev s__law_scene : Stmt := topS 76
abbrev s__law_right : Stmt := topS 77
abbrev s_law : Stmt := topS 78
def d_is_whole : He.DefD := ⟨("is_whole", none), "is_whole", "is_whole", defArgs s_is_whole, defBody s_is_whole, defScope s_is_whole, [], []⟩
def d_is_integer : He.DefD := ⟨("is_integer", none), "is_integer", "is_integer", defArgs s_is_integer, defBody s_is_integer, defScope s_is_integer, [], []⟩
def d_is_tuple : He.DefD := ⟨("is_tuple", none), "is_tuple", "is_tuple", defArgs s_is_tuple, defBody s_is_tuple, defScope s_is_tuple, [], []⟩
def d_is_string : He.DefD := ⟨("is_string", none), "is_string", "is_string", defArgs s_is_string, defBody s_is_string, defScope s_is_string, [], []⟩
def d_are_ascending : He.DefD := ⟨("are_ascending", none), "are_ascending", "are_ascending", defArgs s_are_ascending, defBody s_are_ascending, defScope s_are_ascending, [], []⟩
def d_are_unlike : He.DefD := ⟨("are_unlike", none), "are_unlike", "are_unlike", defArgs s_are_unlike, defBody s_are_unlike, defScope s_are_unlike, [], []⟩
def d_is_name : He.DefD := ⟨("is_name", none), "is_name", "is_name", defArgs s_is_name, defBody s_is_name, defScope s_is_name, [], []⟩
def d_is_key : He.DefD := ⟨("is_key", none), "is_key", "is_key", defArgs s_is_key, defBody s_is_key, defScope s_is_key, [], []⟩
def d_is_text_value : He.DefD := ⟨("is_text_value", none), "is_text_value", "is_text_value", defArgs s_is_text_value, defBody s_is_text_value, defScope s_is_text_value, [], []⟩
def d_is_of_kind : He.DefD := ⟨("is_of_kind", none), "is_of_kind", "is_of_kind", defArgs s_is_of_kind, defBody s_is_of_kind, defScope s_is_of_kind, [], []⟩
def d_are_values : He.DefD := ⟨("are_values", none), "are_values", "are_values", defArgs s_are_values, defBody s_are_values, defScope s_are_values, [], []⟩
def d_are_columns : He.DefD := ⟨("are_columns", none), "are_columns", "are_columns", defArgs s_are_columns, defBody s_are_columns, defScope s_are_columns, [], []⟩
def d_is_schema : He.DefD := ⟨("is_schema", none), "is_schema", "is_schema", defArgs s_is_schema, defBody s_is_schema, defScope s_is_schema, [], []⟩
def d_are_rows : He.DefD := ⟨("are_rows", none), "are_rows", "are_rows", defArgs s_are_rows, defBody s_are_rows, defScope s_are_rows, [], []⟩
def d_is_state : He.DefD := ⟨("is_state", none), "is_state", "is_state", defArgs s_is_state, defBody s_is_state, defScope s_is_state, [], []⟩
def d_are_key_rows : He.DefD := ⟨("are_key_rows", none), "are_key_rows", "are_key_rows", defArgs s_are_key_rows, defBody s_are_key_rows, defScope s_are_key_rows, [], []⟩
def d_check_schema : He.DefD := ⟨("check_schema", none), "check_schema", "check_schema", defArgs s_check_schema, defBody s_check_schema, defScope s_check_schema, [], []⟩
def d_check_state : He.DefD := ⟨("check_state", none), "check_state", "check_state", defArgs s_check_state, defBody s_check_state, defScope s_check_state, [], []⟩
def d_empty_state : He.DefD := ⟨("empty_state", none), "empty_state", "empty_state", defArgs s_empty_state, defBody s_empty_state, defScope s_empty_state, [], []⟩
def d_tables_in : He.DefD := ⟨("tables_in", none), "tables_in", "tables_in", defArgs s_tables_in, defBody s_tables_in, defScope s_tables_in, [], []⟩
def d_state_of : He.DefD := ⟨("state_of", none), "state_of", "state_of", defArgs s_state_of, defBody s_state_of, defScope s_state_of, [], []⟩
def d_check_key : He.DefD := ⟨("check_key", none), "check_key", "check_key", defArgs s_check_key, defBody s_check_key, defScope s_check_key, [], []⟩
def d_keys_of : He.DefD := ⟨("keys_of", none), "keys_of", "keys_of", defArgs s_keys_of, defBody s_keys_of, defScope s_keys_of, [], []⟩
def d_row_in : He.DefD := ⟨("row_in", none), "row_in", "row_in", defArgs s_row_in, defBody s_row_in, defScope s_row_in, [], []⟩
def d_rows_under : He.DefD := ⟨("rows_under", none), "rows_under", "rows_under", defArgs s_rows_under, defBody s_rows_under, defScope s_rows_under, [], []⟩
def d_key_rows : He.DefD := ⟨("key_rows", none), "key_rows", "key_rows", defArgs s_key_rows, defBody s_key_rows, defScope s_key_rows, [], []⟩
def d_state_with : He.DefD := ⟨("state_with", none), "state_with", "state_with", defArgs s_state_with, defBody s_state_with, defScope s_state_with, [], []⟩
def d_with_key_rows : He.DefD := ⟨("with_key_rows", none), "with_key_rows", "with_key_rows", defArgs s_with_key_rows, defBody s_with_key_rows, defScope s_with_key_rows, [], []⟩
def d__law_pot : He.DefD := ⟨("_law_pot", none), "_law_pot", "_law_pot", defArgs s__law_pot, defBody s__law_pot, defScope s__law_pot, [], []⟩
def d__law_take : He.DefD := ⟨("_law_take", none), "_law_take", "_law_take", defArgs s__law_take, defBody s__law_take, defScope s__law_take, [], []⟩
def d__law_of : He.DefD := ⟨("_law_of", none), "_law_of", "_law_of", defArgs s__law_of, defBody s__law_of, defScope s__law_of, [], []⟩
def d__law_some : He.DefD := ⟨("_law_some", none), "_law_some", "_law_some", defArgs s__law_some, defBody s__law_some, defScope s__law_some, [], []⟩
def d__law_cells : He.DefD := ⟨("_law_cells", none), "_law_cells", "_law_cells", defArgs s__law_cells, defBody s__law_cells, defScope s__law_cells, [], []⟩
def d__law_is_int : He.DefD := ⟨("_law_is_int", none), "_law_is_int", "_law_is_int", defArgs s__law_is_int, defBody s__law_is_int, defScope s__law_is_int, [], []⟩
def d__law_state_is_text : He.DefD := ⟨("_law_state_is_text", none), "_law_state_is_text", "_law_state_is_text", defArgs s__law_state_is_text, defBody s__law_state_is_text, defScope s__law_state_is_text, [], []⟩
def d__law_state_is_of : He.DefD := ⟨("_law_state_is_of", none), "_law_state_is_of", "_law_state_is_of", defArgs s__law_state_is_of, defBody s__law_state_is_of, defScope s__law_state_is_of, [], []⟩
def d__law_state_are_values : He.DefD := ⟨("_law_state_are_values", none), "_law_state_are_values", "_law_state_are_values", defArgs s__law_state_are_values, defBody s__law_state_are_values, defScope s__law_state_are_values, [], []⟩
def d__law_state_copy : He.DefD := ⟨("_law_state_copy", none), "_law_state_copy", "_law_state_copy", defArgs s__law_state_copy, defBody s__law_state_copy, defScope s__law_state_copy, [], []⟩
def d__law_state_schema : He.DefD := ⟨("_law_state_schema", none), "_law_state_schema", "_law_state_schema", defArgs s__law_state_schema, defBody s__law_state_schema, defScope s__law_state_schema, [], []⟩
def d__law_state_told : He.DefD := ⟨("_law_state_told", none), "_law_state_told", "_law_state_told", defArgs s__law_state_told, defBody s__law_state_told, defScope s__law_state_told, [], []⟩
def d__law_state_keyed : He.DefD := ⟨("_law_state_keyed", none), "_law_state_keyed", "_law_state_keyed", defArgs s__law_state_keyed, defBody s__law_state_keyed, defScope s__law_state_keyed, [], []⟩
def d__law_state_changed : He.DefD := ⟨("_law_state_changed", none), "_law_state_changed", "_law_state_changed", defArgs s__law_state_changed, defBody s__law_state_changed, defScope s__law_state_changed, [], []⟩
def d__law_state_dealt : He.DefD := ⟨("_law_state_dealt", none), "_law_state_dealt", "_law_state_dealt", defArgs s__law_state_dealt, defBody s__law_state_dealt, defScope s__law_state_dealt, [], []⟩
def d__law_state_keys : He.DefD := ⟨("_law_state_keys", none), "_law_state_keys", "_law_state_keys", defArgs s__law_state_keys, defBody s__law_state_keys, defScope s__law_state_keys, [], []⟩
def d__law_state_value_drawn : He.DefD := ⟨("_law_state_value_drawn", none), "_law_state_value_drawn", "_law_state_value_drawn", defArgs s__law_state_value_drawn, defBody s__law_state_value_drawn, defScope s__law_state_value_drawn, [], []⟩
def d__law_state_values_drawn : He.DefD := ⟨("_law_state_values_drawn", none), "_law_state_values_drawn", "_law_state_values_drawn", defArgs s__law_state_values_drawn, defBody s__law_state_values_drawn, defScope s__law_state_values_drawn, [], []⟩
def d__law_state_columns_drawn : He.DefD := ⟨("_law_state_columns_drawn", none), "_law_state_columns_drawn", "_law_state_columns_drawn", defArgs s__law_state_columns_drawn, defBody s__law_state_columns_drawn, defScope s__law_state_columns_drawn, [], []⟩
def d__law_state_changes_drawn : He.DefD := ⟨("_law_state_changes_drawn", none), "_law_state_changes_drawn", "_law_state_changes_drawn", defArgs s__law_state_changes_drawn, defBody s__law_state_changes_drawn, defScope s__law_state_changes_drawn, [], []⟩
def d__law_same : He.DefD := ⟨("_law_same", none), "_law_same", "_law_same", defArgs s__law_same, defBody s__law_same, defScope s__law_same, [], []⟩
def d__law_rows_drawn : He.DefD := ⟨("_law_rows_drawn", none), "_law_rows_drawn", "_law_rows_drawn", defArgs s__law_rows_drawn, defBody s__law_rows_drawn, defScope s__law_rows_drawn, [], []⟩
def d__law_laid : He.DefD := ⟨("_law_laid", none), "_law_laid", "_law_laid", defArgs s__law_laid, defBody s__law_laid, defScope s__law_laid, [], []⟩
def d__law_are_keys_right : He.DefD := ⟨("_law_are_keys_right", none), "_law_are_keys_right", "_law_are_keys_right", defArgs s__law_are_keys_right, defBody s__law_are_keys_right, defScope s__law_are_keys_right, [], []⟩
def d__law_scene : He.DefD := ⟨("_law_scene", none), "_law_scene", "_law_scene", defArgs s__law_scene, defBody s__law_scene, defScope s__law_scene, [], []⟩
def d__law_right : He.DefD := ⟨("_law_right", none), "_law_right", "_law_right", defArgs s__law_right, defBody s__law_right, defScope s__law_right, [], []⟩
def d_law : He.DefD := ⟨("law", none), "law", "law", defArgs s_law, defBody s_law, defScope s_law, [], []⟩
def fn_0 : List He.DefD := [d_is_whole, d_is_integer, d_is_tuple, d_is_string, d_are_ascending, d_are_unlike, d_is_name, d_is_key, d_is_text_value, d_is_of_kind, d_are_values, d_are_columns]
def fn_1 : List He.DefD := [d_is_schema, d_are_rows, d_is_state, d_are_key_rows, d_check_schema, d_check_state, d_empty_state, d_tables_in, d_state_of, d_check_key, d_keys_of, d_row_in]
def fn_2 : List He.DefD := [d_rows_under, d_key_rows, d_state_with, d_with_key_rows, d__law_pot, d__law_take, d__law_of, d__law_some, d__law_cells, d__law_is_int, d__law_state_is_text, d__law_state_is_of]
def fn_3 : List He.DefD := [d__law_state_are_values, d__law_state_copy, d__law_state_schema, d__law_state_told, d__law_state_keyed, d__law_state_changed, d__law_state_dealt, d__law_state_keys, d__law_state_value_drawn, d__law_state_values_drawn, d__law_state_columns_drawn, d__law_state_changes_drawn]
def fn_4 : List He.DefD := [d__law_same, d__law_rows_drawn, d__law_laid, d__law_are_keys_right, d__law_scene, d__law_right, d_law]
def fn : List He.DefD := fn_0 ++ fn_1 ++ fn_2 ++ fn_3 ++ fn_4
def fa_0 : List He.Fa := [.glo "is_whole", .glo "is_integer", .glo "is_tuple", .glo "is_string", .glo "are_ascending", .glo "are_unlike", .glo "is_name", .glo "is_key", .glo "is_text_value", .glo "is_of_kind", .glo "are_values", .glo "are_columns"]
def fa_1 : List He.Fa := [.glo "is_schema", .glo "are_rows", .glo "is_state", .glo "are_key_rows", .glo "check_schema", .glo "check_state", .glo "empty_state", .glo "tables_in", .glo "state_of", .glo "check_key", .glo "keys_of", .glo "row_in"]
def fa_2 : List He.Fa := [.glo "rows_under", .glo "key_rows", .glo "state_with", .glo "with_key_rows", .glo "_law_pot", .glo "_law_take", .glo "_law_of", .glo "_law_some", .glo "_law_cells", .glo "_law_is_int", .glo "_law_state_is_text", .glo "_law_state_is_of"]
def fa_3 : List He.Fa := [.glo "_law_state_are_values", .glo "_law_state_copy", .glo "_law_state_schema", .glo "_law_state_told", .glo "_law_state_keyed", .glo "_law_state_changed", .glo "_law_state_dealt", .glo "_law_state_keys", .glo "_law_state_value_drawn", .glo "_law_state_values_drawn", .glo "_law_state_columns_drawn", .glo "_law_state_changes_drawn"]
def fa_4 : List He.Fa := [.glo "_law_same", .glo "_law_rows_drawn", .glo "_law_laid", .glo "_law_are_keys_right", .glo "_law_scene", .glo "_law_right", .glo "law", .int "PAIR" 2, .int "MOST_LETTERS" 6, .int "MOST_KEY" 999999, .int "MOST_SIGNS" 12, .int "MOST_VALUE" 99999999999]
def fa_5 : List He.Fa := [.int "MOST_COLUMNS" 6, .int "MOST_TABLES" 6, .str "LETTERS" "abcdefghijklmnopqrstuvwxyz", .str "FIRST_SIGN" "!", .str "LAST_SIGN" "~", .str "INT" "int", .str "TEXT" "text", .free "ValueError", .free "abs", .free "all", .free "bool", .free "dict"]
def fa_6 : List He.Fa := [.free "int", .free "isinstance", .free "len", .free "list", .free "max", .free "min", .free "range", .free "set", .free "sorted", .free "str", .free "sum", .free "super"]
def fa_7 : List He.Fa := [.free "tuple", .free "zip", .glo "KINDS"]
def fa : List He.Fa := fa_0 ++ fa_1 ++ fa_2 ++ fa_3 ++ fa_4 ++ fa_5 ++ fa_6 ++ fa_7
def ex (K : PySem.W.Frag) : Bool := He.tupB K "KINDS" [.str "int", .str "text"]
abbrev R : PySem.W.OpenRow := PySem.W.OpenLaw.row PySem.Challenge.rw_toldmoment_k05_whole_what_lies_under_key
abbrev hk : PySem.W.Hook := He.hookX 4 fa fn [] [] ex
def ob (s : PySem.W.SharedT) : He.AlX := He.obsX 4 fa fn [] [] ex (HandSHeadRun.getT s)
theorem ob_eq (s : PySem.W.SharedT) : ob s = hk.obs s.abs := He.obsX_eq (HandSHeadRun.getT_eq s)
def nm0 : List PySem.Str := ["__name__", "LETTERS", "FIRST_SIGN", "LAST_SIGN", "INT", "TEXT", "KINDS", "PAIR", "MOST_LETTERS", "MOST_KEY", "MOST_SIGNS", "MOST_VALUE"]
def nm1 : List PySem.Str := ["MOST_COLUMNS", "MOST_TABLES", "is_whole", "is_integer", "is_tuple", "is_string", "are_ascending", "are_unlike", "is_name", "is_key", "is_text_value", "is_of_kind"]
def nm2 : List PySem.Str := ["are_values", "are_columns", "is_schema", "are_rows", "is_state", "are_key_rows", "MomentError", "BadSchema", "NoTable", "BadState", "BadKey", "BadRows"]
def nm3 : List PySem.Str := ["check_schema", "check_state", "empty_state", "tables_in", "state_of", "check_key", "keys_of", "row_in", "rows_under", "key_rows", "state_with", "with_key_rows"]
def nm4 : List PySem.Str := ["_law_pot", "_law_take", "_law_of", "_law_some", "_law_cells", "_law_is_int", "_law_state_is_text", "_law_state_is_of", "_law_state_are_values", "_law_state_copy", "_law_state_schema", "_law_state_told"]
def nm5 : List PySem.Str := ["_law_state_keyed", "_law_state_changed", "_law_state_dealt", "_law_state_keys", "_law_state_value_drawn", "_law_state_values_drawn", "_law_state_columns_drawn", "_law_state_changes_drawn", "_law_same", "_law_rows_drawn", "_law_laid", "_law_are_keys_right"]
def nm6 : List PySem.Str := ["_law_scene", "_law_right"]
def names : List PySem.Str := nm0 ++ nm1 ++ nm2 ++ nm3 ++ nm4 ++ nm5 ++ nm6
def lawI : Nat := 78
theorem run (w : World) : HandSHeadRun.RunEq R (PySem.W.view R.prog [78]) hk ob 20000 names w := by
  intro os
  kernel_rfl
end Hd
open PySem PySem.W PySem.Calls PyProof.Rows
theorem Hd.head (hc : WalkO (PySem.W.view Hd.R.prog [78]) Hd.names (XL (PySem.W.view Hd.R.prog [78]) []) Hd.hk.says Hd.R.toRowW (HandSHeadRun.topDef Hd.R.prog 78) [] fun f vs => PySem.call f vs) : PySem.Challenge.rw_toldmoment_k05_whole_what_lies_under_key.Holds := by
  w_on; o_law
  refine HandSHeadRun.head_any (r := OpenLaw.row PySem.Challenge.rw_toldmoment_k05_whole_what_lies_under_key) (q := view (OpenLaw.row PySem.Challenge.rw_toldmoment_k05_whole_what_lies_under_key).prog [78]) (H := Hd.hk) (ob := Hd.ob) (M := 20000) (loose := Hd.names) (d := HandSHeadRun.topDef (OpenLaw.row PySem.Challenge.rw_toldmoment_k05_whole_what_lies_under_key).prog 78) (kwd := []) Hd.ob_eq
    (by kernel_rfl) (fun s => by kernel_rfl) Hd.run (by kernel_rfl) (by kernel_rfl) (by kernel_rfl) (by rfl) (by first | assumption | decide +kernel) (by decide +kernel) ⟨rfl, rfl, rfl, rfl, rfl, by decide +kernel⟩ ?hw ?hc
  case hw => w_witness2
  case hc => exact hc

end
section
set_option maxHeartbeats 0
namespace Gk
open PySem PySem.Spec PyProof.Rows L2 Dl
def c_KINDS : D := .tup [.str ("int" : PySem.Str), .str ("text" : PySem.Str)]
structure Ev (K : PySem.W.Frag) (mg : PySem.Str → Option Value) : Prop where
  m_ValueError : mg "ValueError" = none
  m_abs : mg "abs" = none
  m_all : mg "all" = none
  m_bool : mg "bool" = none
  m_dict : mg "dict" = none
  m_int : mg "int" = none
  m_isinstance : mg "isinstance" = none
  m_len : mg "len" = none
  m_list : mg "list" = none
  m_max : mg "max" = none
  m_min : mg "min" = none
  m_range : mg "range" = none
  m_set : mg "set" = none
  m_sorted : mg "sorted" = none
  m_str : mg "str" = none
  m_sum : mg "sum" = none
  m_super : mg "super" = none
  m_tuple : mg "tuple" = none
  m_zip : mg "zip" = none
  c_PAIR : ∃ t, mg "PAIR" = some (.int 2 t)
  c_MOST_LETTERS : ∃ t, mg "MOST_LETTERS" = some (.int 6 t)
  c_MOST_KEY : ∃ t, mg "MOST_KEY" = some (.int 999999 t)
  c_MOST_SIGNS : ∃ t, mg "MOST_SIGNS" = some (.int 12 t)
  c_MOST_VALUE : ∃ t, mg "MOST_VALUE" = some (.int 99999999999 t)
  c_MOST_COLUMNS : ∃ t, mg "MOST_COLUMNS" = some (.int 6 t)
  c_MOST_TABLES : ∃ t, mg "MOST_TABLES" = some (.int 6 t)
  c_LETTERS : ∃ t, mg "LETTERS" = some (.str "abcdefghijklmnopqrstuvwxyz" t)
  c_FIRST_SIGN : ∃ t, mg "FIRST_SIGN" = some (.str "!" t)
  c_LAST_SIGN : ∃ t, mg "LAST_SIGN" = some (.str "~" t)
  c_INT : ∃ t, mg "INT" = some (.str "int" t)
  c_TEXT : ∃ t, mg "TEXT" = some (.str "text" t)
  c_KINDS : ∃ a, mg "KINDS" = some (.ref a) ∧ ∀ H, RD K H (.ref a) c_KINDS
abbrev n_is_whole : List PySem.Str := [("value" : PySem.Str)]
theorem sc_is_whole : FnScope n_is_whole [("value" : PySem.Str)] (defScope Hd.s_is_whole) := ⟨rfl, rfl, rfl, by decide +kernel, rfl, by decide +kernel, by decide +kernel⟩
def b_is_whole : DS := (dRet (dAndV (dCa rIsiD (dCons (dVar 0) (dCons (dC (.ty "int")) dNil))) (dNotV (dCa rIsiD (dCons (dVar 0) (dCons (dC (.ty "bool")) dNil))))))
theorem w_is_whole {P : Program} {w : World} {K : PySem.W.Frag} {mg : PySem.Str → Option Value} {base : Heap} {k : Nat} (ev : Ev K mg) {f : Addr} (cdv : Value) (A : Around) (outer : List Env) (s : Shared) (H : Hp) (E : XK) (hr : Room k (A.deeper (envOfC "is_whole" (defScope Hd.s_is_whole) s.heap.objs.size f cdv))) : PSsd (cxOf CX0 P w K mg base n_is_whole "is_whole" (defScope Hd.s_is_whole) f cdv A outer s H E).nox (defBody Hd.s_is_whole) b_is_whole :=
  have hu : A.units + 3 + 64 < cLine := hr.units
  (psd_one (psd_ret (pd_and (pd_callB call_isi ab_isi ev.m_isinstance (pda_cons (pdv 0) (pda_cons (pd_ty rfl ev.m_int) pda_nil))) (pd_one (pd_not (pd_callB call_isi ab_isi ev.m_isinstance (pda_cons (pdv 0) (pda_cons (pd_ty rfl ev.m_bool) pda_nil))))))))
abbrev n_is_integer : List PySem.Str := [("value" : PySem.Str), ("low" : PySem.Str), ("high" : PySem.Str)]
theorem sc_is_integer : FnScope n_is_integer [("value" : PySem.Str), ("low" : PySem.Str), ("high" : PySem.Str)] (defScope Hd.s_is_integer) := ⟨rfl, rfl, rfl, by decide +kernel, rfl, by decide +kernel, by decide +kernel⟩
def b_is_integer (sd_is_whole : SpD) : DS := (dRet (dAndV (dCall sd_is_whole (dCons (dVar 0) dNil)) (dChain rLeD rLeD (dVar 1) (dVar 0) (dVar 2))))
theorem w_is_integer {P : Program} {w : World} {K : PySem.W.Frag} {mg : PySem.Str → Option Value} {base : Heap} {k : Nat} {sd_is_whole : SpD} (ev : Ev K mg) (h_is_whole : Has P w K mg base k "is_whole" Hd.s_is_whole [("value" : PySem.Str)] sd_is_whole) {f : Addr} (cdv : Value) (A : Around) (outer : List Env) (s : Shared) (H : Hp) (E : XK) (hr : Room k (A.deeper (envOfC "is_integer" (defScope Hd.s_is_integer) s.heap.objs.size f cdv))) : PSsd (cxOf CX0 P w K mg base n_is_integer "is_integer" (defScope Hd.s_is_integer) f cdv A outer s H E).nox (defBody Hd.s_is_integer) (b_is_integer sd_is_whole) :=
  have hu : A.units + 3 + 64 < cLine := hr.units
  (psd_one (psd_ret (pd_and (pd_call h_is_whole hr (pda_cons (pdv 0) pda_nil)) (pd_one (pd_lele (pdv 1) (pdv 0) (pdv 2))))))
abbrev n_is_tuple : List PySem.Str := [("value" : PySem.Str), ("low" : PySem.Str), ("high" : PySem.Str)]
theorem sc_is_tuple : FnScope n_is_tuple [("value" : PySem.Str), ("low" : PySem.Str), ("high" : PySem.Str)] (defScope Hd.s_is_tuple) := ⟨rfl, rfl, rfl, by decide +kernel, rfl, by decide +kernel, by decide +kernel⟩
def b_is_tuple : DS := (dRet (dAndV (dCa rIsiD (dCons (dVar 0) (dCons (dC (.ty "tuple")) dNil))) (dChain rLeD rLeD (dVar 1) (dCa rLenD (dCons (dVar 0) dNil)) (dVar 2))))
theorem w_is_tuple {P : Program} {w : World} {K : PySem.W.Frag} {mg : PySem.Str → Option Value} {base : Heap} {k : Nat} (ev : Ev K mg) {f : Addr} (cdv : Value) (A : Around) (outer : List Env) (s : Shared) (H : Hp) (E : XK) (hr : Room k (A.deeper (envOfC "is_tuple" (defScope Hd.s_is_tuple) s.heap.objs.size f cdv))) : PSsd (cxOf CX0 P w K mg base n_is_tuple "is_tuple" (defScope Hd.s_is_tuple) f cdv A outer s H E).nox (defBody Hd.s_is_tuple) b_is_tuple :=
  have hu : A.units + 3 + 64 < cLine := hr.units
  (psd_one (psd_ret (pd_and (pd_callB call_isi ab_isi ev.m_isinstance (pda_cons (pdv 0) (pda_cons (pd_ty rfl ev.m_tuple) pda_nil))) (pd_one (pd_lele (pdv 1) (pd_callB cr_lenA ab_len ev.m_len (pda_cons (pdv 0) pda_nil)) (pdv 2))))))
abbrev n_is_string : List PySem.Str := [("value" : PySem.Str), ("some" : PySem.Str)]
theorem sc_is_string : FnScope n_is_string [("value" : PySem.Str), ("some" : PySem.Str)] (defScope Hd.s_is_string) := ⟨rfl, rfl, rfl, by decide +kernel, rfl, by decide +kernel, by decide +kernel⟩
def b_is_string : DS := (dRet (dAndV (dCa rIsiD (dCons (dVar 0) (dCons (dC (.ty "str")) dNil))) (dOp (rInD false) (dVar 0) (dVar 1))))
theorem w_is_string {P : Program} {w : World} {K : PySem.W.Frag} {mg : PySem.Str → Option Value} {base : Heap} {k : Nat} (ev : Ev K mg) {f : Addr} (cdv : Value) (A : Around) (outer : List Env) (s : Shared) (H : Hp) (E : XK) (hr : Room k (A.deeper (envOfC "is_string" (defScope Hd.s_is_string) s.heap.objs.size f cdv))) : PSsd (cxOf CX0 P w K mg base n_is_string "is_string" (defScope Hd.s_is_string) f cdv A outer s H E).nox (defBody Hd.s_is_string) b_is_string :=
  have hu : A.units + 3 + 64 < cLine := hr.units
  (psd_one (psd_ret (pd_and (pd_callB call_isi ab_isi ev.m_isinstance (pda_cons (pdv 0) (pda_cons (pd_ty rfl ev.m_str) pda_nil))) (pd_one (pd_in hu (pdv 0) (pdv 1))))))
abbrev n_are_ascending : List PySem.Str := [("some" : PySem.Str), ("one" : PySem.Str), ("other" : PySem.Str)]
theorem sc_are_ascending : FnScope n_are_ascending [("some" : PySem.Str)] (defScope Hd.s_are_ascending) := ⟨rfl, rfl, rfl, by decide +kernel, rfl, by decide +kernel, by decide +kernel⟩
def b_are_ascending : DS := (dRet (dCa rAllD (dCons (dFz (dLc (dZipX (dCons (dVar 0) (dCons (dSlA (dVar 0) (dPart (dC (.int 1))) dNoPart) dNil))) (gdTup 2 (gdCons (gdName 1) (gdCons (gdName 2) gdNil))) dYes (dOp rLtD (dVar 1) (dVar 2)) (([(("one" : PySem.Str), 1), (("other" : PySem.Str), 2)] : List (PySem.Str × Nat)).map (·.2)))) dNil)))
theorem w_are_ascending {P : Program} {w : World} {K : PySem.W.Frag} {mg : PySem.Str → Option Value} {base : Heap} {k : Nat} (ev : Ev K mg) {f : Addr} (cdv : Value) (A : Around) (outer : List Env) (s : Shared) (H : Hp) (E : XK) (hr : Room k (A.deeper (envOfC "are_ascending" (defScope Hd.s_are_ascending) s.heap.objs.size f cdv))) : PSsd (cxOf CX0 P w K mg base n_are_ascending "are_ascending" (defScope Hd.s_are_ascending) f cdv A outer s H E).nox (defBody Hd.s_are_ascending) b_are_ascending :=
  have hu : A.units + 3 + 64 < cLine := hr.units
  (psd_one (psd_ret (pd_callB (cr_all rfl) ab_all ev.m_all (pda_cons (pd_fz (pl_lc (own := [(("one" : PySem.Str), 1), (("other" : PySem.Str), 2)]) rfl sc_are_ascending.nd (pid_zipX ev.m_zip (pda_cons (pdv 0) (pda_cons (pd_slA (pdv 0) (pdo_some pd_int) pdo_none) pda_nil))) (blkOk_by (N := n_are_ascending) (sc := defScope Hd.s_are_ascending) (by decide +kernel)) (fun _ => (pgw_tup rfl (pgsw_cons (pgw_name (i := 1) (by decide) sc_are_ascending.nd rfl (by first | exact .inl rfl | exact .inr rfl)) (pgsw_cons (pgw_name (i := 2) (by decide) sc_are_ascending.nd rfl (by first | exact .inl rfl | exact .inr rfl)) pgsw_nil)))) (fun _ => ptsd_nil) (fun _ => (pd_lt (pdv 1) (pdv 2))))) pda_nil))))
abbrev n_are_unlike : List PySem.Str := [("some" : PySem.Str), ("one" : PySem.Str)]
theorem sc_are_unlike : FnScope n_are_unlike [("some" : PySem.Str)] (defScope Hd.s_are_unlike) := ⟨rfl, rfl, rfl, by decide +kernel, rfl, by decide +kernel, by decide +kernel⟩
def b_are_unlike : DS := (dRet (dOp rEqD (dCa rLenD (dCons (dFzK (dCa rDictD (dCons (dFz (dLc (dIt (dVar 0)) (gdName 1) dYes (dTup (dCons (dVar 1) (dCons (dC (.bl true)) dNil))) (([(("one" : PySem.Str), 1)] : List (PySem.Str × Nat)).map (·.2)))) dNil))) dNil)) (dCa rLenD (dCons (dVar 0) dNil))))
theorem w_are_unlike {P : Program} {w : World} {K : PySem.W.Frag} {mg : PySem.Str → Option Value} {base : Heap} {k : Nat} (ev : Ev K mg) {f : Addr} (cdv : Value) (A : Around) (outer : List Env) (s : Shared) (H : Hp) (E : XK) (hr : Room k (A.deeper (envOfC "are_unlike" (defScope Hd.s_are_unlike) s.heap.objs.size f cdv))) : PSsd (cxOf CX0 P w K mg base n_are_unlike "are_unlike" (defScope Hd.s_are_unlike) f cdv A outer s H E).nox (defBody Hd.s_are_unlike) b_are_unlike :=
  have hu : A.units + 3 + 64 < cLine := hr.units
  (psd_one (psd_ret (pd_eq hu (pd_callB cr_lenA ab_len ev.m_len (pda_cons (pd_fzK (pk_callTy (call_dictP rfl) ab_dict ev.m_dict (pda_cons (pd_fz (pl_lc (own := [(("one" : PySem.Str), 1)]) rfl sc_are_unlike.nd (pid_any (pdv 0)) (blkOk_by (N := n_are_unlike) (sc := defScope Hd.s_are_unlike) (by decide +kernel)) (fun _ => (pgw_name (i := 1) (by decide) sc_are_unlike.nd rfl (by first | exact .inl rfl | exact .inr rfl))) (fun _ => ptsd_nil) (fun _ => (pd_tup (pda_cons (pdv 1) (pda_cons pd_bl pda_nil)))))) pda_nil))) pda_nil)) (pd_callB cr_lenA ab_len ev.m_len (pda_cons (pdv 0) pda_nil)))))
abbrev n_is_name : List PySem.Str := [("value" : PySem.Str), ("sign" : PySem.Str)]
theorem sc_is_name : FnScope n_is_name [("value" : PySem.Str)] (defScope Hd.s_is_name) := ⟨rfl, rfl, rfl, by decide +kernel, rfl, by decide +kernel, by decide +kernel⟩
def b_is_name : DS := (dRet (dAndV (dCa rIsiD (dCons (dVar 0) (dCons (dC (.ty "str")) dNil))) (dAndV (dChain rLeD rLeD (dC (.int 1)) (dCa rLenD (dCons (dVar 0) dNil)) (dC (.int 6))) (dCa rAllD (dCons (dFz (dLc (dIt (dVar 0)) (gdName 1) dYes (dOp (rInD false) (dVar 1) (dC (.str ("abcdefghijklmnopqrstuvwxyz" : PySem.Str)))) (([(("sign" : PySem.Str), 1)] : List (PySem.Str × Nat)).map (·.2)))) dNil)))))
theorem w_is_name {P : Program} {w : World} {K : PySem.W.Frag} {mg : PySem.Str → Option Value} {base : Heap} {k : Nat} (ev : Ev K mg) {f : Addr} (cdv : Value) (A : Around) (outer : List Env) (s : Shared) (H : Hp) (E : XK) (hr : Room k (A.deeper (envOfC "is_name" (defScope Hd.s_is_name) s.heap.objs.size f cdv))) : PSsd (cxOf CX0 P w K mg base n_is_name "is_name" (defScope Hd.s_is_name) f cdv A outer s H E).nox (defBody Hd.s_is_name) b_is_name :=
  have hu : A.units + 3 + 64 < cLine := hr.units
  (psd_one (psd_ret (pd_and (pd_callB call_isi ab_isi ev.m_isinstance (pda_cons (pdv 0) (pda_cons (pd_ty rfl ev.m_str) pda_nil))) (pd_and (pd_lele pd_int (pd_callB cr_lenA ab_len ev.m_len (pda_cons (pdv 0) pda_nil)) (pd_gint rfl ev.c_MOST_LETTERS)) (pd_one (pd_callB (cr_all rfl) ab_all ev.m_all (pda_cons (pd_fz (pl_lc (own := [(("sign" : PySem.Str), 1)]) rfl sc_is_name.nd (pid_any (pdv 0)) (blkOk_by (N := n_is_name) (sc := defScope Hd.s_is_name) (by decide +kernel)) (fun _ => (pgw_name (i := 1) (by decide) sc_is_name.nd rfl (by first | exact .inl rfl | exact .inr rfl))) (fun _ => ptsd_nil) (fun _ => (pd_in hu (pdv 1) (pd_gstr rfl ev.c_LETTERS))))) pda_nil)))))))
abbrev n_is_key : List PySem.Str := [("value" : PySem.Str)]
theorem sc_is_key : FnScope n_is_key [("value" : PySem.Str)] (defScope Hd.s_is_key) := ⟨rfl, rfl, rfl, by decide +kernel, rfl, by decide +kernel, by decide +kernel⟩
def b_is_key (sd_is_integer : SpD) : DS := (dRet (dCall sd_is_integer (dCons (dVar 0) (dCons (dC (.int 1)) (dCons (dC (.int 999999)) dNil)))))
theorem w_is_key {P : Program} {w : World} {K : PySem.W.Frag} {mg : PySem.Str → Option Value} {base : Heap} {k : Nat} {sd_is_integer : SpD} (ev : Ev K mg) (h_is_integer : Has P w K mg base k "is_integer" Hd.s_is_integer [("value" : PySem.Str), ("low" : PySem.Str), ("high" : PySem.Str)] sd_is_integer) {f : Addr} (cdv : Value) (A : Around) (outer : List Env) (s : Shared) (H : Hp) (E : XK) (hr : Room k (A.deeper (envOfC "is_key" (defScope Hd.s_is_key) s.heap.objs.size f cdv))) : PSsd (cxOf CX0 P w K mg base n_is_key "is_key" (defScope Hd.s_is_key) f cdv A outer s H E).nox (defBody Hd.s_is_key) (b_is_key sd_is_integer) :=
  have hu : A.units + 3 + 64 < cLine := hr.units
  (psd_one (psd_ret (pd_call h_is_integer hr (pda_cons (pdv 0) (pda_cons pd_int (pda_cons (pd_gint rfl ev.c_MOST_KEY) pda_nil))))))
abbrev n_is_text_value : List PySem.Str := [("value" : PySem.Str), ("sign" : PySem.Str)]
theorem sc_is_text_value : FnScope n_is_text_value [("value" : PySem.Str)] (defScope Hd.s_is_text_value) := ⟨rfl, rfl, rfl, by decide +kernel, rfl, by decide +kernel, by decide +kernel⟩
def b_is_text_value : DS := (dSeq (dIfS (dOr (dNot (dTru (dCa rIsiD (dCons (dVar 0) (dCons (dC (.ty "str")) dNil))))) (dB (dOp rGtD (dCa rLenD (dCons (dVar 0) dNil)) (dC (.int 12))))) (dRet (dC (.bl false))) dNext) (dRet (dCa rAllD (dCons (dFz (dLc (dIt (dVar 0)) (gdName 1) dYes (dChain rLeD rLeD (dC (.str ("!" : PySem.Str))) (dVar 1) (dC (.str ("~" : PySem.Str)))) (([(("sign" : PySem.Str), 1)] : List (PySem.Str × Nat)).map (·.2)))) dNil))))
theorem w_is_text_value {P : Program} {w : World} {K : PySem.W.Frag} {mg : PySem.Str → Option Value} {base : Heap} {k : Nat} (ev : Ev K mg) {f : Addr} (cdv : Value) (A : Around) (outer : List Env) (s : Shared) (H : Hp) (E : XK) (hr : Room k (A.deeper (envOfC "is_text_value" (defScope Hd.s_is_text_value) s.heap.objs.size f cdv))) : PSsd (cxOf CX0 P w K mg base n_is_text_value "is_text_value" (defScope Hd.s_is_text_value) f cdv A outer s H E).nox (defBody Hd.s_is_text_value) b_is_text_value :=
  have hu : A.units + 3 + 64 < cLine := hr.units
  (psd_cons (psd_if (pt_w (pw_orD (pt_notD (pt_tru (pd_callB call_isi ab_isi ev.m_isinstance (pda_cons (pdv 0) (pda_cons (pd_ty rfl ev.m_str) pda_nil))))) (pw_oneO (pt_gt (pd_callB cr_lenA ab_len ev.m_len (pda_cons (pdv 0) pda_nil)) (pd_gint rfl ev.c_MOST_SIGNS))))) (psd_one (psd_ret pd_bl)) psd_nil) (psd_one (psd_ret (pd_callB (cr_all rfl) ab_all ev.m_all (pda_cons (pd_fz (pl_lc (own := [(("sign" : PySem.Str), 1)]) rfl sc_is_text_value.nd (pid_any (pdv 0)) (blkOk_by (N := n_is_text_value) (sc := defScope Hd.s_is_text_value) (by decide +kernel)) (fun _ => (pgw_name (i := 1) (by decide) sc_is_text_value.nd rfl (by first | exact .inl rfl | exact .inr rfl))) (fun _ => ptsd_nil) (fun _ => (pd_lele (pd_gstr rfl ev.c_FIRST_SIGN) (pdv 1) (pd_gstr rfl ev.c_LAST_SIGN))))) pda_nil)))))
abbrev n_is_of_kind : List PySem.Str := [("value" : PySem.Str), ("kind" : PySem.Str)]
theorem sc_is_of_kind : FnScope n_is_of_kind [("value" : PySem.Str), ("kind" : PySem.Str)] (defScope Hd.s_is_of_kind) := ⟨rfl, rfl, rfl, by decide +kernel, rfl, by decide +kernel, by decide +kernel⟩
def b_is_of_kind (sd_is_integer : SpD) (sd_is_text_value : SpD) : DS := (dSeq (dIfS (dB (dIsN (dVar 0))) (dRet (dC (.bl true))) dNext) (dRet (dIf (dB (dOp rEqD (dVar 1) (dC (.str ("int" : PySem.Str))))) (dCall sd_is_integer (dCons (dVar 0) (dCons (dNeg (dC (.int 99999999999))) (dCons (dC (.int 99999999999)) dNil)))) (dCall sd_is_text_value (dCons (dVar 0) dNil)))))
theorem w_is_of_kind {P : Program} {w : World} {K : PySem.W.Frag} {mg : PySem.Str → Option Value} {base : Heap} {k : Nat} {sd_is_integer sd_is_text_value : SpD} (ev : Ev K mg) (h_is_integer : Has P w K mg base k "is_integer" Hd.s_is_integer [("value" : PySem.Str), ("low" : PySem.Str), ("high" : PySem.Str)] sd_is_integer) (h_is_text_value : Has P w K mg base k "is_text_value" Hd.s_is_text_value [("value" : PySem.Str)] sd_is_text_value) {f : Addr} (cdv : Value) (A : Around) (outer : List Env) (s : Shared) (H : Hp) (E : XK) (hr : Room k (A.deeper (envOfC "is_of_kind" (defScope Hd.s_is_of_kind) s.heap.objs.size f cdv))) : PSsd (cxOf CX0 P w K mg base n_is_of_kind "is_of_kind" (defScope Hd.s_is_of_kind) f cdv A outer s H E).nox (defBody Hd.s_is_of_kind) (b_is_of_kind sd_is_integer sd_is_text_value) :=
  have hu : A.units + 3 + 64 < cLine := hr.units
  (psd_cons (psd_if (pt_isN (pdv 0)) (psd_one (psd_ret pd_bl)) psd_nil) (psd_one (psd_ret (pd_ite (pt_eq hu (pdv 1) (pd_gstr rfl ev.c_INT)) (pd_call h_is_integer hr (pda_cons (pdv 0) (pda_cons (pd_neg (pd_gint rfl ev.c_MOST_VALUE)) (pda_cons (pd_gint rfl ev.c_MOST_VALUE) pda_nil)))) (pd_call h_is_text_value hr (pda_cons (pdv 0) pda_nil))))))
abbrev n_are_values : List PySem.Str := [("value" : PySem.Str), ("columns" : PySem.Str), ("one" : PySem.Str), ("name" : PySem.Str), ("kind" : PySem.Str)]
theorem sc_are_values : FnScope n_are_values [("value" : PySem.Str), ("columns" : PySem.Str)] (defScope Hd.s_are_values) := ⟨rfl, rfl, rfl, by decide +kernel, rfl, by decide +kernel, by decide +kernel⟩
def b_are_values (sd_is_tuple : SpD) (sd_is_of_kind : SpD) : DS := (dSeq (dIfS (dNot (dTru (dCall sd_is_tuple (dCons (dVar 0) (dCons (dCa rLenD (dCons (dVar 1) dNil)) (dCons (dCa rLenD (dCons (dVar 1) dNil)) dNil)))))) (dRet (dC (.bl false))) dNext) (dRet (dCa rAllD (dCons (dFz (dLc (dZipX (dCons (dVar 0) (dCons (dVar 1) dNil))) (gdTup 2 (gdCons (gdName 2) (gdCons (gdTup 2 (gdCons (gdName 3) (gdCons (gdName 4) gdNil))) gdNil))) dYes (dCall sd_is_of_kind (dCons (dVar 2) (dCons (dVar 4) dNil))) (([(("one" : PySem.Str), 2), (("name" : PySem.Str), 3), (("kind" : PySem.Str), 4)] : List (PySem.Str × Nat)).map (·.2)))) dNil))))
theorem w_are_values {P : Program} {w : World} {K : PySem.W.Frag} {mg : PySem.Str → Option Value} {base : Heap} {k : Nat} {sd_is_tuple sd_is_of_kind : SpD} (ev : Ev K mg) (h_is_tuple : Has P w K mg base k "is_tuple" Hd.s_is_tuple [("value" : PySem.Str), ("low" : PySem.Str), ("high" : PySem.Str)] sd_is_tuple) (h_is_of_kind : Has P w K mg base k "is_of_kind" Hd.s_is_of_kind [("value" : PySem.Str), ("kind" : PySem.Str)] sd_is_of_kind) {f : Addr} (cdv : Value) (A : Around) (outer : List Env) (s : Shared) (H : Hp) (E : XK) (hr : Room k (A.deeper (envOfC "are_values" (defScope Hd.s_are_values) s.heap.objs.size f cdv))) : PSsd (cxOf CX0 P w K mg base n_are_values "are_values" (defScope Hd.s_are_values) f cdv A outer s H E).nox (defBody Hd.s_are_values) (b_are_values sd_is_tuple sd_is_of_kind) :=
  have hu : A.units + 3 + 64 < cLine := hr.units
  (psd_cons (psd_if (pt_notD (pt_tru (pd_call h_is_tuple hr (pda_cons (pdv 0) (pda_cons (pd_callB cr_lenA ab_len ev.m_len (pda_cons (pdv 1) pda_nil)) (pda_cons (pd_callB cr_lenA ab_len ev.m_len (pda_cons (pdv 1) pda_nil)) pda_nil)))))) (psd_one (psd_ret pd_bl)) psd_nil) (psd_one (psd_ret (pd_callB (cr_all rfl) ab_all ev.m_all (pda_cons (pd_fz (pl_lc (own := [(("one" : PySem.Str), 2), (("name" : PySem.Str), 3), (("kind" : PySem.Str), 4)]) rfl sc_are_values.nd (pid_zipX ev.m_zip (pda_cons (pdv 0) (pda_cons (pdv 1) pda_nil))) (blkOk_by (N := n_are_values) (sc := defScope Hd.s_are_values) (by decide +kernel)) (fun _ => (pgw_tup rfl (pgsw_cons (pgw_name (i := 2) (by decide) sc_are_values.nd rfl (by first | exact .inl rfl | exact .inr rfl)) (pgsw_cons (pgw_tup rfl (pgsw_cons (pgw_name (i := 3) (by decide) sc_are_values.nd rfl (by first | exact .inl rfl | exact .inr rfl)) (pgsw_cons (pgw_name (i := 4) (by decide) sc_are_values.nd rfl (by first | exact .inl rfl | exact .inr rfl)) pgsw_nil))) pgsw_nil)))) (fun _ => ptsd_nil) (fun _ => (pd_call h_is_of_kind hr (pda_cons (pdv 2) (pda_cons (pdv 4) pda_nil)))))) pda_nil)))))
abbrev n_are_columns : List PySem.Str := [("value" : PySem.Str), ("one" : PySem.Str)]
theorem sc_are_columns : FnScope n_are_columns [("value" : PySem.Str)] (defScope Hd.s_are_columns) := ⟨rfl, rfl, rfl, by decide +kernel, rfl, by decide +kernel, by decide +kernel⟩
def b_are_columns (sd_is_tuple : SpD) (sd_is_name : SpD) (sd_is_string : SpD) (sd_are_unlike : SpD) : DS := (dSeq (dIfS (dOr (dNot (dTru (dCall sd_is_tuple (dCons (dVar 0) (dCons (dC (.int 0)) (dCons (dC (.int 6)) dNil)))))) (dNot (dTru (dCa rAllD (dCons (dFz (dLc (dIt (dVar 0)) (gdName 1) dYes (dCall sd_is_tuple (dCons (dVar 1) (dCons (dC (.int 2)) (dCons (dC (.int 2)) dNil)))) (([(("one" : PySem.Str), 1)] : List (PySem.Str × Nat)).map (·.2)))) dNil))))) (dRet (dC (.bl false))) dNext) (dSeq (dIfS (dNot (dTru (dCa rAllD (dCons (dFz (dLc (dIt (dVar 0)) (gdName 1) dYes (dAndV (dCall sd_is_name (dCons (dOp rIxD (dVar 1) (dC (.int 0))) dNil)) (dCall sd_is_string (dCons (dOp rIxD (dVar 1) (dC (.int 1))) (dCons (dC c_KINDS) dNil)))) (([(("one" : PySem.Str), 1)] : List (PySem.Str × Nat)).map (·.2)))) dNil)))) (dRet (dC (.bl false))) dNext) (dRet (dCall sd_are_unlike (dCons (dFz (dLc (dIt (dVar 0)) (gdName 1) dYes (dOp rIxD (dVar 1) (dC (.int 0))) (([(("one" : PySem.Str), 1)] : List (PySem.Str × Nat)).map (·.2)))) dNil)))))
theorem w_are_columns {P : Program} {w : World} {K : PySem.W.Frag} {mg : PySem.Str → Option Value} {base : Heap} {k : Nat} {sd_is_tuple sd_is_name sd_is_string sd_are_unlike : SpD} (ev : Ev K mg) (h_is_tuple : Has P w K mg base k "is_tuple" Hd.s_is_tuple [("value" : PySem.Str), ("low" : PySem.Str), ("high" : PySem.Str)] sd_is_tuple) (h_is_name : Has P w K mg base k "is_name" Hd.s_is_name [("value" : PySem.Str)] sd_is_name) (h_is_string : Has P w K mg base k "is_string" Hd.s_is_string [("value" : PySem.Str), ("some" : PySem.Str)] sd_is_string) (h_are_unlike : Has P w K mg base k "are_unlike" Hd.s_are_unlike [("some" : PySem.Str)] sd_are_unlike) {f : Addr} (cdv : Value) (A : Around) (outer : List Env) (s : Shared) (H : Hp) (E : XK) (hr : Room k (A.deeper (envOfC "are_columns" (defScope Hd.s_are_columns) s.heap.objs.size f cdv))) : PSsd (cxOf CX0 P w K mg base n_are_columns "are_columns" (defScope Hd.s_are_columns) f cdv A outer s H E).nox (defBody Hd.s_are_columns) (b_are_columns sd_is_tuple sd_is_name sd_is_string sd_are_unlike) :=
  have hu : A.units + 3 + 64 < cLine := hr.units
  (psd_cons (psd_if (pt_w (pw_orD (pt_notD (pt_tru (pd_call h_is_tuple hr (pda_cons (pdv 0) (pda_cons pd_int (pda_cons (pd_gint rfl ev.c_MOST_COLUMNS) pda_nil)))))) (pw_oneO (pt_notD (pt_tru (pd_callB (cr_all rfl) ab_all ev.m_all (pda_cons (pd_fz (pl_lc (own := [(("one" : PySem.Str), 1)]) rfl sc_are_columns.nd (pid_any (pdv 0)) (blkOk_by (N := n_are_columns) (sc := defScope Hd.s_are_columns) (by decide +kernel)) (fun _ => (pgw_name (i := 1) (by decide) sc_are_columns.nd rfl (by first | exact .inl rfl | exact .inr rfl))) (fun _ => ptsd_nil) (fun _ => (pd_call h_is_tuple hr (pda_cons (pdv 1) (pda_cons (pd_gint rfl ev.c_PAIR) (pda_cons (pd_gint rfl ev.c_PAIR) pda_nil))))))) pda_nil))))))) (psd_one (psd_ret pd_bl)) psd_nil) (psd_cons (psd_if (pt_notD (pt_tru (pd_callB (cr_all rfl) ab_all ev.m_all (pda_cons (pd_fz (pl_lc (own := [(("one" : PySem.Str), 1)]) rfl sc_are_columns.nd (pid_any (pdv 0)) (blkOk_by (N := n_are_columns) (sc := defScope Hd.s_are_columns) (by decide +kernel)) (fun _ => (pgw_name (i := 1) (by decide) sc_are_columns.nd rfl (by first | exact .inl rfl | exact .inr rfl))) (fun _ => ptsd_nil) (fun _ => (pd_and (pd_call h_is_name hr (pda_cons (pd_ix hu (pdv 1) pd_int) pda_nil)) (pd_one (pd_call h_is_string hr (pda_cons (pd_ix hu (pdv 1) pd_int) (pda_cons (pd_gtup rfl ev.c_KINDS) pda_nil)))))))) pda_nil)))) (psd_one (psd_ret pd_bl)) psd_nil) (psd_one (psd_ret (pd_call h_are_unlike hr (pda_cons (pd_fz (pl_lc (own := [(("one" : PySem.Str), 1)]) rfl sc_are_columns.nd (pid_any (pdv 0)) (blkOk_by (N := n_are_columns) (sc := defScope Hd.s_are_columns) (by decide +kernel)) (fun _ => (pgw_name (i := 1) (by decide) sc_are_columns.nd rfl (by first | exact .inl rfl | exact .inr rfl))) (fun _ => ptsd_nil) (fun _ => (pd_ix hu (pdv 1) pd_int)))) pda_nil))))))
abbrev n_is_schema : List PySem.Str := [("value" : PySem.Str), ("one" : PySem.Str)]
theorem sc_is_schema : FnScope n_is_schema [("value" : PySem.Str)] (defScope Hd.s_is_schema) := ⟨rfl, rfl, rfl, by decide +kernel, rfl, by decide +kernel, by decide +kernel⟩
def b_is_schema (sd_is_tuple : SpD) (sd_is_name : SpD) (sd_are_columns : SpD) (sd_are_ascending : SpD) : DS := (dSeq (dIfS (dOr (dNot (dTru (dCall sd_is_tuple (dCons (dVar 0) (dCons (dC (.int 0)) (dCons (dC (.int 6)) dNil)))))) (dNot (dTru (dCa rAllD (dCons (dFz (dLc (dIt (dVar 0)) (gdName 1) dYes (dCall sd_is_tuple (dCons (dVar 1) (dCons (dC (.int 2)) (dCons (dC (.int 2)) dNil)))) (([(("one" : PySem.Str), 1)] : List (PySem.Str × Nat)).map (·.2)))) dNil))))) (dRet (dC (.bl false))) dNext) (dSeq (dIfS (dNot (dTru (dCa rAllD (dCons (dFz (dLc (dIt (dVar 0)) (gdName 1) dYes (dAndV (dCall sd_is_name (dCons (dOp rIxD (dVar 1) (dC (.int 0))) dNil)) (dCall sd_are_columns (dCons (dOp rIxD (dVar 1) (dC (.int 1))) dNil))) (([(("one" : PySem.Str), 1)] : List (PySem.Str × Nat)).map (·.2)))) dNil)))) (dRet (dC (.bl false))) dNext) (dRet (dCall sd_are_ascending (dCons (dFz (dLc (dIt (dVar 0)) (gdName 1) dYes (dOp rIxD (dVar 1) (dC (.int 0))) (([(("one" : PySem.Str), 1)] : List (PySem.Str × Nat)).map (·.2)))) dNil)))))
theorem w_is_schema {P : Program} {w : World} {K : PySem.W.Frag} {mg : PySem.Str → Option Value} {base : Heap} {k : Nat} {sd_is_tuple sd_is_name sd_are_columns sd_are_ascending : SpD} (ev : Ev K mg) (h_is_tuple : Has P w K mg base k "is_tuple" Hd.s_is_tuple [("value" : PySem.Str), ("low" : PySem.Str), ("high" : PySem.Str)] sd_is_tuple) (h_is_name : Has P w K mg base k "is_name" Hd.s_is_name [("value" : PySem.Str)] sd_is_name) (h_are_columns : Has P w K mg base k "are_columns" Hd.s_are_columns [("value" : PySem.Str)] sd_are_columns) (h_are_ascending : Has P w K mg base k "are_ascending" Hd.s_are_ascending [("some" : PySem.Str)] sd_are_ascending) {f : Addr} (cdv : Value) (A : Around) (outer : List Env) (s : Shared) (H : Hp) (E : XK) (hr : Room k (A.deeper (envOfC "is_schema" (defScope Hd.s_is_schema) s.heap.objs.size f cdv))) : PSsd (cxOf CX0 P w K mg base n_is_schema "is_schema" (defScope Hd.s_is_schema) f cdv A outer s H E).nox (defBody Hd.s_is_schema) (b_is_schema sd_is_tuple sd_is_name sd_are_columns sd_are_ascending) :=
  have hu : A.units + 3 + 64 < cLine := hr.units
  (psd_cons (psd_if (pt_w (pw_orD (pt_notD (pt_tru (pd_call h_is_tuple hr (pda_cons (pdv 0) (pda_cons pd_int (pda_cons (pd_gint rfl ev.c_MOST_TABLES) pda_nil)))))) (pw_oneO (pt_notD (pt_tru (pd_callB (cr_all rfl) ab_all ev.m_all (pda_cons (pd_fz (pl_lc (own := [(("one" : PySem.Str), 1)]) rfl sc_is_schema.nd (pid_any (pdv 0)) (blkOk_by (N := n_is_schema) (sc := defScope Hd.s_is_schema) (by decide +kernel)) (fun _ => (pgw_name (i := 1) (by decide) sc_is_schema.nd rfl (by first | exact .inl rfl | exact .inr rfl))) (fun _ => ptsd_nil) (fun _ => (pd_call h_is_tuple hr (pda_cons (pdv 1) (pda_cons (pd_gint rfl ev.c_PAIR) (pda_cons (pd_gint rfl ev.c_PAIR) pda_nil))))))) pda_nil))))))) (psd_one (psd_ret pd_bl)) psd_nil) (psd_cons (psd_if (pt_notD (pt_tru (pd_callB (cr_all rfl) ab_all ev.m_all (pda_cons (pd_fz (pl_lc (own := [(("one" : PySem.Str), 1)]) rfl sc_is_schema.nd (pid_any (pdv 0)) (blkOk_by (N := n_is_schema) (sc := defScope Hd.s_is_schema) (by decide +kernel)) (fun _ => (pgw_name (i := 1) (by decide) sc_is_schema.nd rfl (by first | exact .inl rfl | exact .inr rfl))) (fun _ => ptsd_nil) (fun _ => (pd_and (pd_call h_is_name hr (pda_cons (pd_ix hu (pdv 1) pd_int) pda_nil)) (pd_one (pd_call h_are_columns hr (pda_cons (pd_ix hu (pdv 1) pd_int) pda_nil))))))) pda_nil)))) (psd_one (psd_ret pd_bl)) psd_nil) (psd_one (psd_ret (pd_call h_are_ascending hr (pda_cons (pd_fz (pl_lc (own := [(("one" : PySem.Str), 1)]) rfl sc_is_schema.nd (pid_any (pdv 0)) (blkOk_by (N := n_is_schema) (sc := defScope Hd.s_is_schema) (by decide +kernel)) (fun _ => (pgw_name (i := 1) (by decide) sc_is_schema.nd rfl (by first | exact .inl rfl | exact .inr rfl))) (fun _ => ptsd_nil) (fun _ => (pd_ix hu (pdv 1) pd_int)))) pda_nil))))))
abbrev n_are_rows : List PySem.Str := [("value" : PySem.Str), ("columns" : PySem.Str), ("row" : PySem.Str)]
theorem sc_are_rows : FnScope n_are_rows [("value" : PySem.Str), ("columns" : PySem.Str)] (defScope Hd.s_are_rows) := ⟨rfl, rfl, rfl, by decide +kernel, rfl, by decide +kernel, by decide +kernel⟩
def b_are_rows (sd_is_tuple : SpD) (sd_is_key : SpD) (sd_are_values : SpD) (sd_are_ascending : SpD) : DS := (dSeq (dIfS (dOr (dNot (dTru (dCa rIsiD (dCons (dVar 0) (dCons (dC (.ty "tuple")) dNil))))) (dNot (dTru (dCa rAllD (dCons (dFz (dLc (dIt (dVar 0)) (gdName 2) dYes (dCall sd_is_tuple (dCons (dVar 2) (dCons (dC (.int 2)) (dCons (dC (.int 2)) dNil)))) (([(("row" : PySem.Str), 2)] : List (PySem.Str × Nat)).map (·.2)))) dNil))))) (dRet (dC (.bl false))) dNext) (dSeq (dIfS (dNot (dTru (dCa rAllD (dCons (dFz (dLc (dIt (dVar 0)) (gdName 2) dYes (dAndV (dCall sd_is_key (dCons (dOp rIxD (dVar 2) (dC (.int 0))) dNil)) (dCall sd_are_values (dCons (dOp rIxD (dVar 2) (dC (.int 1))) (dCons (dVar 1) dNil)))) (([(("row" : PySem.Str), 2)] : List (PySem.Str × Nat)).map (·.2)))) dNil)))) (dRet (dC (.bl false))) dNext) (dRet (dCall sd_are_ascending (dCons (dFz (dLc (dIt (dVar 0)) (gdName 2) dYes (dOp rIxD (dVar 2) (dC (.int 0))) (([(("row" : PySem.Str), 2)] : List (PySem.Str × Nat)).map (·.2)))) dNil)))))
theorem w_are_rows {P : Program} {w : World} {K : PySem.W.Frag} {mg : PySem.Str → Option Value} {base : Heap} {k : Nat} {sd_is_tuple sd_is_key sd_are_values sd_are_ascending : SpD} (ev : Ev K mg) (h_is_tuple : Has P w K mg base k "is_tuple" Hd.s_is_tuple [("value" : PySem.Str), ("low" : PySem.Str), ("high" : PySem.Str)] sd_is_tuple) (h_is_key : Has P w K mg base k "is_key" Hd.s_is_key [("value" : PySem.Str)] sd_is_key) (h_are_values : Has P w K mg base k "are_values" Hd.s_are_values [("value" : PySem.Str), ("columns" : PySem.Str)] sd_are_values) (h_are_ascending : Has P w K mg base k "are_ascending" Hd.s_are_ascending [("some" : PySem.Str)] sd_are_ascending) {f : Addr} (cdv : Value) (A : Around) (outer : List Env) (s : Shared) (H : Hp) (E : XK) (hr : Room k (A.deeper (envOfC "are_rows" (defScope Hd.s_are_rows) s.heap.objs.size f cdv))) : PSsd (cxOf CX0 P w K mg base n_are_rows "are_rows" (defScope Hd.s_are_rows) f cdv A outer s H E).nox (defBody Hd.s_are_rows) (b_are_rows sd_is_tuple sd_is_key sd_are_values sd_are_ascending) :=
  have hu : A.units + 3 + 64 < cLine := hr.units
  (psd_cons (psd_if (pt_w (pw_orD (pt_notD (pt_tru (pd_callB call_isi ab_isi ev.m_isinstance (pda_cons (pdv 0) (pda_cons (pd_ty rfl ev.m_tuple) pda_nil))))) (pw_oneO (pt_notD (pt_tru (pd_callB (cr_all rfl) ab_all ev.m_all (pda_cons (pd_fz (pl_lc (own := [(("row" : PySem.Str), 2)]) rfl sc_are_rows.nd (pid_any (pdv 0)) (blkOk_by (N := n_are_rows) (sc := defScope Hd.s_are_rows) (by decide +kernel)) (fun _ => (pgw_name (i := 2) (by decide) sc_are_rows.nd rfl (by first | exact .inl rfl | exact .inr rfl))) (fun _ => ptsd_nil) (fun _ => (pd_call h_is_tuple hr (pda_cons (pdv 2) (pda_cons (pd_gint rfl ev.c_PAIR) (pda_cons (pd_gint rfl ev.c_PAIR) pda_nil))))))) pda_nil))))))) (psd_one (psd_ret pd_bl)) psd_nil) (psd_cons (psd_if (pt_notD (pt_tru (pd_callB (cr_all rfl) ab_all ev.m_all (pda_cons (pd_fz (pl_lc (own := [(("row" : PySem.Str), 2)]) rfl sc_are_rows.nd (pid_any (pdv 0)) (blkOk_by (N := n_are_rows) (sc := defScope Hd.s_are_rows) (by decide +kernel)) (fun _ => (pgw_name (i := 2) (by decide) sc_are_rows.nd rfl (by first | exact .inl rfl | exact .inr rfl))) (fun _ => ptsd_nil) (fun _ => (pd_and (pd_call h_is_key hr (pda_cons (pd_ix hu (pdv 2) pd_int) pda_nil)) (pd_one (pd_call h_are_values hr (pda_cons (pd_ix hu (pdv 2) pd_int) (pda_cons (pdv 1) pda_nil)))))))) pda_nil)))) (psd_one (psd_ret pd_bl)) psd_nil) (psd_one (psd_ret (pd_call h_are_ascending hr (pda_cons (pd_fz (pl_lc (own := [(("row" : PySem.Str), 2)]) rfl sc_are_rows.nd (pid_any (pdv 0)) (blkOk_by (N := n_are_rows) (sc := defScope Hd.s_are_rows) (by decide +kernel)) (fun _ => (pgw_name (i := 2) (by decide) sc_are_rows.nd rfl (by first | exact .inl rfl | exact .inr rfl))) (fun _ => ptsd_nil) (fun _ => (pd_ix hu (pdv 2) pd_int)))) pda_nil))))))
abbrev n_is_state : List PySem.Str := [("schema" : PySem.Str), ("value" : PySem.Str), ("one" : PySem.Str), ("table" : PySem.Str), ("columns" : PySem.Str)]
theorem sc_is_state : FnScope n_is_state [("schema" : PySem.Str), ("value" : PySem.Str)] (defScope Hd.s_is_state) := ⟨rfl, rfl, rfl, by decide +kernel, rfl, by decide +kernel, by decide +kernel⟩
def b_is_state (sd_is_tuple : SpD) (sd_is_string : SpD) (sd_are_rows : SpD) : DS := (dSeq (dIfS (dOr (dNot (dTru (dCall sd_is_tuple (dCons (dVar 1) (dCons (dCa rLenD (dCons (dVar 0) dNil)) (dCons (dCa rLenD (dCons (dVar 0) dNil)) dNil)))))) (dNot (dTru (dCa rAllD (dCons (dFz (dLc (dIt (dVar 1)) (gdName 2) dYes (dCall sd_is_tuple (dCons (dVar 2) (dCons (dC (.int 2)) (dCons (dC (.int 2)) dNil)))) (([(("one" : PySem.Str), 2)] : List (PySem.Str × Nat)).map (·.2)))) dNil))))) (dRet (dC (.bl false))) dNext) (dSeq (dFor (dZipX (dCons (dVar 1) (dCons (dVar 0) dNil))) (gdTup 2 (gdCons (gdName 2) (gdCons (gdTup 2 (gdCons (gdName 3) (gdCons (gdName 4) gdNil))) gdNil))) (dIfS (dOr (dNot (dTru (dCall sd_is_string (dCons (dOp rIxD (dVar 2) (dC (.int 0))) (dCons (dTup (dCons (dVar 3) dNil)) dNil))))) (dNot (dTru (dCall sd_are_rows (dCons (dOp rIxD (dVar 2) (dC (.int 1))) (dCons (dVar 4) dNil)))))) (dRet (dC (.bl false))) dNext)) (dRet (dC (.bl true)))))
theorem w_is_state {P : Program} {w : World} {K : PySem.W.Frag} {mg : PySem.Str → Option Value} {base : Heap} {k : Nat} {sd_is_tuple sd_is_string sd_are_rows : SpD} (ev : Ev K mg) (h_is_tuple : Has P w K mg base k "is_tuple" Hd.s_is_tuple [("value" : PySem.Str), ("low" : PySem.Str), ("high" : PySem.Str)] sd_is_tuple) (h_is_string : Has P w K mg base k "is_string" Hd.s_is_string [("value" : PySem.Str), ("some" : PySem.Str)] sd_is_string) (h_are_rows : Has P w K mg base k "are_rows" Hd.s_are_rows [("value" : PySem.Str), ("columns" : PySem.Str)] sd_are_rows) {f : Addr} (cdv : Value) (A : Around) (outer : List Env) (s : Shared) (H : Hp) (E : XK) (hr : Room k (A.deeper (envOfC "is_state" (defScope Hd.s_is_state) s.heap.objs.size f cdv))) : PSsd (cxOf CX0 P w K mg base n_is_state "is_state" (defScope Hd.s_is_state) f cdv A outer s H E).nox (defBody Hd.s_is_state) (b_is_state sd_is_tuple sd_is_string sd_are_rows) :=
  have hu : A.units + 3 + 64 < cLine := hr.units
  (psd_cons (psd_if (pt_w (pw_orD (pt_notD (pt_tru (pd_call h_is_tuple hr (pda_cons (pdv 1) (pda_cons (pd_callB cr_lenA ab_len ev.m_len (pda_cons (pdv 0) pda_nil)) (pda_cons (pd_callB cr_lenA ab_len ev.m_len (pda_cons (pdv 0) pda_nil)) pda_nil)))))) (pw_oneO (pt_notD (pt_tru (pd_callB (cr_all rfl) ab_all ev.m_all (pda_cons (pd_fz (pl_lc (own := [(("one" : PySem.Str), 2)]) rfl sc_is_state.nd (pid_any (pdv 1)) (blkOk_by (N := n_is_state) (sc := defScope Hd.s_is_state) (by decide +kernel)) (fun _ => (pgw_name (i := 2) (by decide) sc_is_state.nd rfl (by first | exact .inl rfl | exact .inr rfl))) (fun _ => ptsd_nil) (fun _ => (pd_call h_is_tuple hr (pda_cons (pdv 2) (pda_cons (pd_gint rfl ev.c_PAIR) (pda_cons (pd_gint rfl ev.c_PAIR) pda_nil))))))) pda_nil))))))) (psd_one (psd_ret pd_bl)) psd_nil) (psd_cons (psd_for PassesOwn.never rfl (pid_zipX ev.m_zip (pda_cons (pdv 1) (pda_cons (pdv 0) pda_nil))) (pgd_tup rfl (pgsd_cons (pgd_name (i := 2) sc_is_state.nd rfl (.inl rfl)) (pgsd_cons (pgd_tup rfl (pgsd_cons (pgd_name (i := 3) sc_is_state.nd rfl (.inl rfl)) (pgsd_cons (pgd_name (i := 4) sc_is_state.nd rfl (.inl rfl)) pgsd_nil))) pgsd_nil))) (psd_one (psd_if (pt_w (pw_orD (pt_notD (pt_tru (pd_call h_is_string hr (pda_cons (pd_ix hu (pdv 2) pd_int) (pda_cons (pd_tup (pda_cons (pdv 3) pda_nil)) pda_nil))))) (pw_oneO (pt_notD (pt_tru (pd_call h_are_rows hr (pda_cons (pd_ix hu (pdv 2) pd_int) (pda_cons (pdv 4) pda_nil)))))))) (psd_one (psd_ret pd_bl)) psd_nil))) (psd_one (psd_ret pd_bl))))
abbrev n_are_key_rows : List PySem.Str := [("schema" : PySem.Str), ("value" : PySem.Str), ("one" : PySem.Str), ("table" : PySem.Str), ("columns" : PySem.Str)]
theorem sc_are_key_rows : FnScope n_are_key_rows [("schema" : PySem.Str), ("value" : PySem.Str)] (defScope Hd.s_are_key_rows) := ⟨rfl, rfl, rfl, by decide +kernel, rfl, by decide +kernel, by decide +kernel⟩
def b_are_key_rows (sd_is_tuple : SpD) (sd_is_string : SpD) (sd_are_values : SpD) : DS := (dSeq (dIfS (dOr (dNot (dTru (dCall sd_is_tuple (dCons (dVar 1) (dCons (dCa rLenD (dCons (dVar 0) dNil)) (dCons (dCa rLenD (dCons (dVar 0) dNil)) dNil)))))) (dNot (dTru (dCa rAllD (dCons (dFz (dLc (dIt (dVar 1)) (gdName 2) dYes (dCall sd_is_tuple (dCons (dVar 2) (dCons (dC (.int 2)) (dCons (dC (.int 2)) dNil)))) (([(("one" : PySem.Str), 2)] : List (PySem.Str × Nat)).map (·.2)))) dNil))))) (dRet (dC (.bl false))) dNext) (dSeq (dFor (dZipX (dCons (dVar 1) (dCons (dVar 0) dNil))) (gdTup 2 (gdCons (gdName 2) (gdCons (gdTup 2 (gdCons (gdName 3) (gdCons (gdName 4) gdNil))) gdNil))) (dIfS (dOr (dNot (dTru (dCall sd_is_string (dCons (dOp rIxD (dVar 2) (dC (.int 0))) (dCons (dTup (dCons (dVar 3) dNil)) dNil))))) (dAnd (dB (dNotN (dOp rIxD (dVar 2) (dC (.int 1))))) (dNot (dTru (dCall sd_are_values (dCons (dOp rIxD (dVar 2) (dC (.int 1))) (dCons (dVar 4) dNil))))))) (dRet (dC (.bl false))) dNext)) (dRet (dC (.bl true)))))
theorem w_are_key_rows {P : Program} {w : World} {K : PySem.W.Frag} {mg : PySem.Str → Option Value} {base : Heap} {k : Nat} {sd_is_tuple sd_is_string sd_are_values : SpD} (ev : Ev K mg) (h_is_tuple : Has P w K mg base k "is_tuple" Hd.s_is_tuple [("value" : PySem.Str), ("low" : PySem.Str), ("high" : PySem.Str)] sd_is_tuple) (h_is_string : Has P w K mg base k "is_string" Hd.s_is_string [("value" : PySem.Str), ("some" : PySem.Str)] sd_is_string) (h_are_values : Has P w K mg base k "are_values" Hd.s_are_values [("value" : PySem.Str), ("columns" : PySem.Str)] sd_are_values) {f : Addr} (cdv : Value) (A : Around) (outer : List Env) (s : Shared) (H : Hp) (E : XK) (hr : Room k (A.deeper (envOfC "are_key_rows" (defScope Hd.s_are_key_rows) s.heap.objs.size f cdv))) : PSsd (cxOf CX0 P w K mg base n_are_key_rows "are_key_rows" (defScope Hd.s_are_key_rows) f cdv A outer s H E).nox (defBody Hd.s_are_key_rows) (b_are_key_rows sd_is_tuple sd_is_string sd_are_values) :=
  have hu : A.units + 3 + 64 < cLine := hr.units
  (psd_cons (psd_if (pt_w (pw_orD (pt_notD (pt_tru (pd_call h_is_tuple hr (pda_cons (pdv 1) (pda_cons (pd_callB cr_lenA ab_len ev.m_len (pda_cons (pdv 0) pda_nil)) (pda_cons (pd_callB cr_lenA ab_len ev.m_len (pda_cons (pdv 0) pda_nil)) pda_nil)))))) (pw_oneO (pt_notD (pt_tru (pd_callB (cr_all rfl) ab_all ev.m_all (pda_cons (pd_fz (pl_lc (own := [(("one" : PySem.Str), 2)]) rfl sc_are_key_rows.nd (pid_any (pdv 1)) (blkOk_by (N := n_are_key_rows) (sc := defScope Hd.s_are_key_rows) (by decide +kernel)) (fun _ => (pgw_name (i := 2) (by decide) sc_are_key_rows.nd rfl (by first | exact .inl rfl | exact .inr rfl))) (fun _ => ptsd_nil) (fun _ => (pd_call h_is_tuple hr (pda_cons (pdv 2) (pda_cons (pd_gint rfl ev.c_PAIR) (pda_cons (pd_gint rfl ev.c_PAIR) pda_nil))))))) pda_nil))))))) (psd_one (psd_ret pd_bl)) psd_nil) (psd_cons (psd_for PassesOwn.never rfl (pid_zipX ev.m_zip (pda_cons (pdv 1) (pda_cons (pdv 0) pda_nil))) (pgd_tup rfl (pgsd_cons (pgd_name (i := 2) sc_are_key_rows.nd rfl (.inl rfl)) (pgsd_cons (pgd_tup rfl (pgsd_cons (pgd_name (i := 3) sc_are_key_rows.nd rfl (.inl rfl)) (pgsd_cons (pgd_name (i := 4) sc_are_key_rows.nd rfl (.inl rfl)) pgsd_nil))) pgsd_nil))) (psd_one (psd_if (pt_w (pw_orD (pt_notD (pt_tru (pd_call h_is_string hr (pda_cons (pd_ix hu (pdv 2) pd_int) (pda_cons (pd_tup (pda_cons (pdv 3) pda_nil)) pda_nil))))) (pw_oneO (pt_w (pw_andD (pt_notN (pd_ix hu (pdv 2) pd_int)) (pw_one (pt_notD (pt_tru (pd_call h_are_values hr (pda_cons (pd_ix hu (pdv 2) pd_int) (pda_cons (pdv 4) pda_nil))))))))))) (psd_one (psd_ret pd_bl)) psd_nil))) (psd_one (psd_ret pd_bl))))
abbrev n_check_schema : List PySem.Str := [("schema" : PySem.Str)]
theorem sc_check_schema : FnScope n_check_schema [("schema" : PySem.Str)] (defScope Hd.s_check_schema) := ⟨rfl, rfl, rfl, by decide +kernel, rfl, by decide +kernel, by decide +kernel⟩
def b_check_schema (sd_is_schema : SpD) : DS := (dIfS (dNot (dTru (dCall sd_is_schema (dCons (dVar 0) dNil)))) dNever dNext)
theorem w_check_schema {P : Program} {w : World} {K : PySem.W.Frag} {mg : PySem.Str → Option Value} {base : Heap} {k : Nat} {sd_is_schema : SpD} (ev : Ev K mg) (h_is_schema : Has P w K mg base k "is_schema" Hd.s_is_schema [("value" : PySem.Str)] sd_is_schema) {f : Addr} (cdv : Value) (A : Around) (outer : List Env) (s : Shared) (H : Hp) (E : XK) (hr : Room k (A.deeper (envOfC "check_schema" (defScope Hd.s_check_schema) s.heap.objs.size f cdv))) : PSsd (cxOf CX0 P w K mg base n_check_schema "check_schema" (defScope Hd.s_check_schema) f cdv A outer s H E).nox (defBody Hd.s_check_schema) (b_check_schema sd_is_schema) :=
  have hu : A.units + 3 + 64 < cLine := hr.units
  (psd_one (psd_if (pt_notD (pt_tru (pd_call h_is_schema hr (pda_cons (pdv 0) pda_nil)))) (psd_one psd_never) psd_nil))
abbrev n_check_state : List PySem.Str := [("schema" : PySem.Str), ("state" : PySem.Str)]
theorem sc_check_state : FnScope n_check_state [("schema" : PySem.Str), ("state" : PySem.Str)] (defScope Hd.s_check_state) := ⟨rfl, rfl, rfl, by decide +kernel, rfl, by decide +kernel, by decide +kernel⟩
def b_check_state (sd_is_state : SpD) : DS := (dIfS (dNot (dTru (dCall sd_is_state (dCons (dVar 0) (dCons (dVar 1) dNil))))) dNever dNext)
theorem w_check_state {P : Program} {w : World} {K : PySem.W.Frag} {mg : PySem.Str → Option Value} {base : Heap} {k : Nat} {sd_is_state : SpD} (ev : Ev K mg) (h_is_state : Has P w K mg base k "is_state" Hd.s_is_state [("schema" : PySem.Str), ("value" : PySem.Str)] sd_is_state) {f : Addr} (cdv : Value) (A : Around) (outer : List Env) (s : Shared) (H : Hp) (E : XK) (hr : Room k (A.deeper (envOfC "check_state" (defScope Hd.s_check_state) s.heap.objs.size f cdv))) : PSsd (cxOf CX0 P w K mg base n_check_state "check_state" (defScope Hd.s_check_state) f cdv A outer s H E).nox (defBody Hd.s_check_state) (b_check_state sd_is_state) :=
  have hu : A.units + 3 + 64 < cLine := hr.units
  (psd_one (psd_if (pt_notD (pt_tru (pd_call h_is_state hr (pda_cons (pdv 0) (pda_cons (pdv 1) pda_nil))))) (psd_one psd_never) psd_nil))
abbrev n_empty_state : List PySem.Str := [("schema" : PySem.Str), ("table" : PySem.Str), ("columns" : PySem.Str)]
theorem sc_empty_state : FnScope n_empty_state [("schema" : PySem.Str)] (defScope Hd.s_empty_state) := ⟨rfl, rfl, rfl, by decide +kernel, rfl, by decide +kernel, by decide +kernel⟩
def b_empty_state (sd_check_schema : SpD) : DS := (dSeq (dDrop (dCall sd_check_schema (dCons (dVar 0) dNil))) (dRet (dCa rTupleD (dCons (dFz (dLc (dIt (dVar 0)) (gdTup 2 (gdCons (gdName 1) (gdCons (gdName 2) gdNil))) dYes (dTup (dCons (dVar 1) (dCons (dTup dNil) dNil))) (([(("table" : PySem.Str), 1), (("columns" : PySem.Str), 2)] : List (PySem.Str × Nat)).map (·.2)))) dNil))))
theorem w_empty_state {P : Program} {w : World} {K : PySem.W.Frag} {mg : PySem.Str → Option Value} {base : Heap} {k : Nat} {sd_check_schema : SpD} (ev : Ev K mg) (h_check_schema : Has P w K mg base k "check_schema" Hd.s_check_schema [("schema" : PySem.Str)] sd_check_schema) {f : Addr} (cdv : Value) (A : Around) (outer : List Env) (s : Shared) (H : Hp) (E : XK) (hr : Room k (A.deeper (envOfC "empty_state" (defScope Hd.s_empty_state) s.heap.objs.size f cdv))) : PSsd (cxOf CX0 P w K mg base n_empty_state "empty_state" (defScope Hd.s_empty_state) f cdv A outer s H E).nox (defBody Hd.s_empty_state) (b_empty_state sd_check_schema) :=
  have hu : A.units + 3 + 64 < cLine := hr.units
  (psd_cons (psd_expr (pd_call h_check_schema hr (pda_cons (pdv 0) pda_nil))) (psd_one (psd_ret (pd_callTy call_tuple_of ab_tuple ev.m_tuple (pda_cons (pd_fz (pl_lc (own := [(("table" : PySem.Str), 1), (("columns" : PySem.Str), 2)]) rfl sc_empty_state.nd (pid_any (pdv 0)) (blkOk_by (N := n_empty_state) (sc := defScope Hd.s_empty_state) (by decide +kernel)) (fun _ => (pgw_tup rfl (pgsw_cons (pgw_name (i := 1) (by decide) sc_empty_state.nd rfl (by first | exact .inl rfl | exact .inr rfl)) (pgsw_cons (pgw_name (i := 2) (by decide) sc_empty_state.nd rfl (by first | exact .inl rfl | exact .inr rfl)) pgsw_nil)))) (fun _ => ptsd_nil) (fun _ => (pd_tup (pda_cons (pdv 1) (pda_cons (pd_tup pda_nil) pda_nil)))))) pda_nil)))))
abbrev n_tables_in : List PySem.Str := [("state" : PySem.Str), ("table" : PySem.Str), ("rows" : PySem.Str)]
theorem sc_tables_in : FnScope n_tables_in [("state" : PySem.Str)] (defScope Hd.s_tables_in) := ⟨rfl, rfl, rfl, by decide +kernel, rfl, by decide +kernel, by decide +kernel⟩
def b_tables_in : DS := (dRet (dFzK (dCa rDictD (dCons (dFz (dLc (dIt (dVar 0)) (gdTup 2 (gdCons (gdName 1) (gdCons (gdName 2) gdNil))) dYes (dTup (dCons (dVar 1) (dCons (dNewK (dCa rDictD (dCons (dFz (dCa rListA (dCons (dVar 2) dNil))) dNil))) dNil))) (([(("table" : PySem.Str), 1), (("rows" : PySem.Str), 2)] : List (PySem.Str × Nat)).map (·.2)))) dNil))))
theorem w_tables_in {P : Program} {w : World} {K : PySem.W.Frag} {mg : PySem.Str → Option Value} {base : Heap} {k : Nat} (ev : Ev K mg) {f : Addr} (cdv : Value) (A : Around) (outer : List Env) (s : Shared) (H : Hp) (E : XK) (hr : Room k (A.deeper (envOfC "tables_in" (defScope Hd.s_tables_in) s.heap.objs.size f cdv))) : PSsd (cxOf CX0 P w K mg base n_tables_in "tables_in" (defScope Hd.s_tables_in) f cdv A outer s H E).nox (defBody Hd.s_tables_in) b_tables_in :=
  have hu : A.units + 3 + 64 < cLine := hr.units
  (psd_one (psd_ret (pd_fzK (pk_callTy (call_dictP rfl) ab_dict ev.m_dict (pda_cons (pd_fz (pl_lc (own := [(("table" : PySem.Str), 1), (("rows" : PySem.Str), 2)]) rfl sc_tables_in.nd (pid_any (pdv 0)) (blkOk_by (N := n_tables_in) (sc := defScope Hd.s_tables_in) (by decide +kernel)) (fun _ => (pgw_tup rfl (pgsw_cons (pgw_name (i := 1) (by decide) sc_tables_in.nd rfl (by first | exact .inl rfl | exact .inr rfl)) (pgsw_cons (pgw_name (i := 2) (by decide) sc_tables_in.nd rfl (by first | exact .inl rfl | exact .inr rfl)) pgsw_nil)))) (fun _ => ptsd_nil) (fun _ => (pd_tup (pda_cons (pdv 1) (pda_cons (pd_newK (pk_callTy (call_dictP rfl) ab_dict ev.m_dict (pda_cons (pd_fz (pl_callTy (cr_listA rfl) ab_listA ev.m_list (pda_cons (pdv 2) pda_nil))) pda_nil))) pda_nil)))))) pda_nil)))))
abbrev n_state_of : List PySem.Str := [("tables" : PySem.Str), ("table" : PySem.Str)]
theorem sc_state_of : FnScope n_state_of [("tables" : PySem.Str)] (defScope Hd.s_state_of) := ⟨rfl, rfl, rfl, by decide +kernel, rfl, by decide +kernel, by decide +kernel⟩
def b_state_of : DS := (dRet (dCa rTupleD (dCons (dFz (dLc (dIt (dFz (dCa rSorted (dCons (dVar 0) dNil)))) (gdName 1) dYes (dTup (dCons (dVar 1) (dCons (dCa rTupleD (dCons (dFz (dSItems (dOp rIxD (dVar 0) (dVar 1)))) dNil)) dNil))) (([(("table" : PySem.Str), 1)] : List (PySem.Str × Nat)).map (·.2)))) dNil)))
theorem w_state_of {P : Program} {w : World} {K : PySem.W.Frag} {mg : PySem.Str → Option Value} {base : Heap} {k : Nat} (ev : Ev K mg) {f : Addr} (cdv : Value) (A : Around) (outer : List Env) (s : Shared) (H : Hp) (E : XK) (hr : Room k (A.deeper (envOfC "state_of" (defScope Hd.s_state_of) s.heap.objs.size f cdv))) : PSsd (cxOf CX0 P w K mg base n_state_of "state_of" (defScope Hd.s_state_of) f cdv A outer s H E).nox (defBody Hd.s_state_of) b_state_of :=
  have hu : A.units + 3 + 64 < cLine := hr.units
  (psd_one (psd_ret (pd_callTy call_tuple_of ab_tuple ev.m_tuple (pda_cons (pd_fz (pl_lc (own := [(("table" : PySem.Str), 1)]) rfl sc_state_of.nd (pid_any (pd_fz (pl_callB (cr_sortedV rfl) ab_sorted ev.m_sorted (pda_cons (pdv 0) pda_nil)))) (blkOk_by (N := n_state_of) (sc := defScope Hd.s_state_of) (by decide +kernel)) (fun _ => (pgw_name (i := 1) (by decide) sc_state_of.nd rfl (by first | exact .inl rfl | exact .inr rfl))) (fun _ => ptsd_nil) (fun _ => (pd_tup (pda_cons (pdv 1) (pda_cons (pd_callTy call_tuple_of ab_tuple ev.m_tuple (pda_cons (pd_fz (pl_sortItems rfl ev.m_sorted (pd_ix hu (pdv 0) (pdv 1)))) pda_nil)) pda_nil)))))) pda_nil))))
abbrev n_check_key : List PySem.Str := [("key" : PySem.Str)]
theorem sc_check_key : FnScope n_check_key [("key" : PySem.Str)] (defScope Hd.s_check_key) := ⟨rfl, rfl, rfl, by decide +kernel, rfl, by decide +kernel, by decide +kernel⟩
def b_check_key (sd_is_key : SpD) : DS := (dIfS (dNot (dTru (dCall sd_is_key (dCons (dVar 0) dNil)))) dNever dNext)
theorem w_check_key {P : Program} {w : World} {K : PySem.W.Frag} {mg : PySem.Str → Option Value} {base : Heap} {k : Nat} {sd_is_key : SpD} (ev : Ev K mg) (h_is_key : Has P w K mg base k "is_key" Hd.s_is_key [("value" : PySem.Str)] sd_is_key) {f : Addr} (cdv : Value) (A : Around) (outer : List Env) (s : Shared) (H : Hp) (E : XK) (hr : Room k (A.deeper (envOfC "check_key" (defScope Hd.s_check_key) s.heap.objs.size f cdv))) : PSsd (cxOf CX0 P w K mg base n_check_key "check_key" (defScope Hd.s_check_key) f cdv A outer s H E).nox (defBody Hd.s_check_key) (b_check_key sd_is_key) :=
  have hu : A.units + 3 + 64 < cLine := hr.units
  (psd_one (psd_if (pt_notD (pt_tru (pd_call h_is_key hr (pda_cons (pdv 0) pda_nil)))) (psd_one psd_never) psd_nil))
abbrev n_keys_of : List PySem.Str := [("state" : PySem.Str), ("found" : PySem.Str), ("table" : PySem.Str), ("rows" : PySem.Str), ("key" : PySem.Str), ("values" : PySem.Str)]
theorem sc_keys_of : FnScope n_keys_of [("state" : PySem.Str)] (defScope Hd.s_keys_of) := ⟨rfl, rfl, rfl, by decide +kernel, rfl, by decide +kernel, by decide +kernel⟩
def b_keys_of : DS := (dSeq (dAsg (dNewK dEmptyK) (gdName 1)) (dSeq (dFor (dIt (dVar 0)) (gdTup 2 (gdCons (gdName 2) (gdCons (gdName 3) gdNil))) (dFor (dIt (dVar 3)) (gdTup 2 (gdCons (gdName 4) (gdCons (gdName 5) gdNil))) (dPut (dVar 1) (dVar 4) (dC (.bl true))))) (dRet (dCa rTupleD (dCons (dFz (dCa rSorted (dCons (dVar 1) dNil))) dNil)))))
theorem w_keys_of {P : Program} {w : World} {K : PySem.W.Frag} {mg : PySem.Str → Option Value} {base : Heap} {k : Nat} (ev : Ev K mg) {f : Addr} (cdv : Value) (A : Around) (outer : List Env) (s : Shared) (H : Hp) (E : XK) (hr : Room k (A.deeper (envOfC "keys_of" (defScope Hd.s_keys_of) s.heap.objs.size f cdv))) : PSsd (cxOf CX0 P w K mg base n_keys_of "keys_of" (defScope Hd.s_keys_of) f cdv A outer s H E).nox (defBody Hd.s_keys_of) b_keys_of :=
  have hu : A.units + 3 + 64 < cLine := hr.units
  (psd_cons (psd_set (i := 1) sc_keys_of.nd rfl (by first | exact .inl rfl | exact .inr rfl) (pd_newK pk_empty)) (psd_cons (psd_for PassesOwn.never rfl (pid_any (pdv 0)) (pgd_tup rfl (pgsd_cons (pgd_name (i := 2) sc_keys_of.nd rfl (.inl rfl)) (pgsd_cons (pgd_name (i := 3) sc_keys_of.nd rfl (.inl rfl)) pgsd_nil))) (psd_one (psd_for PassesOwn.never rfl (pid_any (pdv 3)) (pgd_tup rfl (pgsd_cons (pgd_name (i := 4) sc_keys_of.nd rfl (.inl rfl)) (pgsd_cons (pgd_name (i := 5) sc_keys_of.nd rfl (.inl rfl)) pgsd_nil))) (psd_one (psd_put hu (pdv 1) (pdv 4) pd_bl))))) (psd_one (psd_ret (pd_callTy call_tuple_of ab_tuple ev.m_tuple (pda_cons (pd_fz (pl_callB (cr_sortedV rfl) ab_sorted ev.m_sorted (pda_cons (pdv 1) pda_nil))) pda_nil))))))
abbrev n_row_in : List PySem.Str := [("state" : PySem.Str), ("table" : PySem.Str), ("key" : PySem.Str), ("rows" : PySem.Str), ("name" : PySem.Str), ("some" : PySem.Str)]
theorem sc_row_in : FnScope n_row_in [("state" : PySem.Str), ("table" : PySem.Str), ("key" : PySem.Str)] (defScope Hd.s_row_in) := ⟨rfl, rfl, rfl, by decide +kernel, rfl, by decide +kernel, by decide +kernel⟩
def b_row_in (sd_check_key : SpD) : DS := (dSeq (dSetF (dLc (dIt (dVar 0)) (gdTup 2 (gdCons (gdName 4) (gdCons (gdName 5) gdNil))) (dAnd (dTru (dCa rIsiD (dCons (dVar 1) (dCons (dC (.ty "str")) dNil)))) (dB (dOp rEqD (dVar 4) (dVar 1)))) (dVar 5) (([(("name" : PySem.Str), 4), (("some" : PySem.Str), 5)] : List (PySem.Str × Nat)).map (·.2))) 3) (dSeq (dIfS (dB (dOp rEqD (dVar 3) (dFz (dLst dNil)))) dNever dNext) (dSeq (dDrop (dCall sd_check_key (dCons (dVar 2) dNil))) (dRet (dGet1 (dFzK (dCa rDictD (dCons (dFz (dCa rListA (dCons (dOp rIxD (dVar 3) (dC (.int 0))) dNil))) dNil))) (dVar 2))))))
theorem w_row_in {P : Program} {w : World} {K : PySem.W.Frag} {mg : PySem.Str → Option Value} {base : Heap} {k : Nat} {sd_check_key : SpD} (ev : Ev K mg) (h_check_key : Has P w K mg base k "check_key" Hd.s_check_key [("key" : PySem.Str)] sd_check_key) {f : Addr} (cdv : Value) (A : Around) (outer : List Env) (s : Shared) (H : Hp) (E : XK) (hr : Room k (A.deeper (envOfC "row_in" (defScope Hd.s_row_in) s.heap.objs.size f cdv))) : PSsd (cxOf CX0 P w K mg base n_row_in "row_in" (defScope Hd.s_row_in) f cdv A outer s H E).nox (defBody Hd.s_row_in) (b_row_in sd_check_key) :=
  have hu : A.units + 3 + 64 < cLine := hr.units
  (psd_cons (psd_lcF (own := [(("name" : PySem.Str), 4), (("some" : PySem.Str), 5)]) rfl sc_row_in.nd (i := 3) rfl rfl rfl (pid_any (pdv 0)) (blkOk_by (N := n_row_in) (sc := defScope Hd.s_row_in) (by decide +kernel)) (fun _ => (pgw_tup rfl (pgsw_cons (pgw_name (i := 4) (by decide) sc_row_in.nd rfl (by first | exact .inl rfl | exact .inr rfl)) (pgsw_cons (pgw_name (i := 5) (by decide) sc_row_in.nd rfl (by first | exact .inl rfl | exact .inr rfl)) pgsw_nil)))) (fun _ => (ptsd_one (pt_w (pw_andD (pt_tru (pd_callB call_isi ab_isi ev.m_isinstance (pda_cons (pdv 1) (pda_cons (pd_ty rfl ev.m_str) pda_nil)))) (pw_one (pt_eq hu (pdv 4) (pdv 1))))))) (fun _ => (pdv 5))) (psd_cons (psd_if (pt_eq hu (pdv 3) (pd_fz (pl_lst pda_nil))) (psd_one psd_never) psd_nil) (psd_cons (psd_expr (pd_call h_check_key hr (pda_cons (pdv 2) pda_nil))) (psd_one (psd_ret (pd_get1 hu (pd_fzK (pk_callTy (call_dictP rfl) ab_dict ev.m_dict (pda_cons (pd_fz (pl_callTy (cr_listA rfl) ab_listA ev.m_list (pda_cons (pd_ix hu (pdv 3) pd_int) pda_nil))) pda_nil))) (pdv 2) ⟨rfl, rfl, rfl, rfl⟩))))))
abbrev n_rows_under : List PySem.Str := [("state" : PySem.Str), ("key" : PySem.Str), ("table" : PySem.Str), ("rows" : PySem.Str)]
theorem sc_rows_under : FnScope n_rows_under [("state" : PySem.Str), ("key" : PySem.Str)] (defScope Hd.s_rows_under) := ⟨rfl, rfl, rfl, by decide +kernel, rfl, by decide +kernel, by decide +kernel⟩
def b_rows_under : DS := (dRet (dCa rTupleD (dCons (dFz (dLc (dIt (dVar 0)) (gdTup 2 (gdCons (gdName 2) (gdCons (gdName 3) gdNil))) dYes (dTup (dCons (dVar 2) (dCons (dGet1 (dFzK (dCa rDictD (dCons (dFz (dCa rListA (dCons (dVar 3) dNil))) dNil))) (dVar 1)) dNil))) (([(("table" : PySem.Str), 2), (("rows" : PySem.Str), 3)] : List (PySem.Str × Nat)).map (·.2)))) dNil)))
theorem w_rows_under {P : Program} {w : World} {K : PySem.W.Frag} {mg : PySem.Str → Option Value} {base : Heap} {k : Nat} (ev : Ev K mg) {f : Addr} (cdv : Value) (A : Around) (outer : List Env) (s : Shared) (H : Hp) (E : XK) (hr : Room k (A.deeper (envOfC "rows_under" (defScope Hd.s_rows_under) s.heap.objs.size f cdv))) : PSsd (cxOf CX0 P w K mg base n_rows_under "rows_under" (defScope Hd.s_rows_under) f cdv A outer s H E).nox (defBody Hd.s_rows_under) b_rows_under :=
  have hu : A.units + 3 + 64 < cLine := hr.units
  (psd_one (psd_ret (pd_callTy call_tuple_of ab_tuple ev.m_tuple (pda_cons (pd_fz (pl_lc (own := [(("table" : PySem.Str), 2), (("rows" : PySem.Str), 3)]) rfl sc_rows_under.nd (pid_any (pdv 0)) (blkOk_by (N := n_rows_under) (sc := defScope Hd.s_rows_under) (by decide +kernel)) (fun _ => (pgw_tup rfl (pgsw_cons (pgw_name (i := 2) (by decide) sc_rows_under.nd rfl (by first | exact .inl rfl | exact .inr rfl)) (pgsw_cons (pgw_name (i := 3) (by decide) sc_rows_under.nd rfl (by first | exact .inl rfl | exact .inr rfl)) pgsw_nil)))) (fun _ => ptsd_nil) (fun _ => (pd_tup (pda_cons (pdv 2) (pda_cons (pd_get1 hu (pd_fzK (pk_callTy (call_dictP rfl) ab_dict ev.m_dict (pda_cons (pd_fz (pl_callTy (cr_listA rfl) ab_listA ev.m_list (pda_cons (pdv 3) pda_nil))) pda_nil))) (pdv 1) ⟨rfl, rfl, rfl, rfl⟩) pda_nil)))))) pda_nil))))
abbrev n_key_rows : List PySem.Str := [("state" : PySem.Str), ("key" : PySem.Str)]
theorem sc_key_rows : FnScope n_key_rows [("state" : PySem.Str), ("key" : PySem.Str)] (defScope Hd.s_key_rows) := ⟨rfl, rfl, rfl, by decide +kernel, rfl, by decide +kernel, by decide +kernel⟩
def b_key_rows (sd_check_key : SpD) (sd_rows_under : SpD) : DS := (dSeq (dDrop (dCall sd_check_key (dCons (dVar 1) dNil))) (dRet (dCall sd_rows_under (dCons (dVar 0) (dCons (dVar 1) dNil)))))
theorem w_key_rows {P : Program} {w : World} {K : PySem.W.Frag} {mg : PySem.Str → Option Value} {base : Heap} {k : Nat} {sd_check_key sd_rows_under : SpD} (ev : Ev K mg) (h_check_key : Has P w K mg base k "check_key" Hd.s_check_key [("key" : PySem.Str)] sd_check_key) (h_rows_under : Has P w K mg base k "rows_under" Hd.s_rows_under [("state" : PySem.Str), ("key" : PySem.Str)] sd_rows_under) {f : Addr} (cdv : Value) (A : Around) (outer : List Env) (s : Shared) (H : Hp) (E : XK) (hr : Room k (A.deeper (envOfC "key_rows" (defScope Hd.s_key_rows) s.heap.objs.size f cdv))) : PSsd (cxOf CX0 P w K mg base n_key_rows "key_rows" (defScope Hd.s_key_rows) f cdv A outer s H E).nox (defBody Hd.s_key_rows) (b_key_rows sd_check_key sd_rows_under) :=
  have hu : A.units + 3 + 64 < cLine := hr.units
  (psd_cons (psd_expr (pd_call h_check_key hr (pda_cons (pdv 1) pda_nil))) (psd_one (psd_ret (pd_call h_rows_under hr (pda_cons (pdv 0) (pda_cons (pdv 1) pda_nil))))))
abbrev n_state_with : List PySem.Str := [("state" : PySem.Str), ("key" : PySem.Str), ("rows" : PySem.Str), ("tables" : PySem.Str), ("table" : PySem.Str), ("values" : PySem.Str)]
theorem sc_state_with : FnScope n_state_with [("state" : PySem.Str), ("key" : PySem.Str), ("rows" : PySem.Str)] (defScope Hd.s_state_with) := ⟨rfl, rfl, rfl, by decide +kernel, rfl, by decide +kernel, by decide +kernel⟩
def b_state_with (sd_tables_in : SpD) (sd_state_of : SpD) : DS := (dSeq (dAsg (dCall sd_tables_in (dCons (dVar 0) dNil)) (gdName 3)) (dSeq (dFor (dIt (dVar 2)) (gdTup 2 (gdCons (gdName 4) (gdCons (gdName 5) gdNil))) (dSeq (dDrop (dPop2 (dOp rIxD (dVar 3) (dVar 4)) (dVar 1) (dC .non))) (dIfS (dB (dNotN (dVar 5))) (dPut (dOp rIxD (dVar 3) (dVar 4)) (dVar 1) (dVar 5)) dNext))) (dRet (dCall sd_state_of (dCons (dVar 3) dNil)))))
theorem w_state_with {P : Program} {w : World} {K : PySem.W.Frag} {mg : PySem.Str → Option Value} {base : Heap} {k : Nat} {sd_tables_in sd_state_of : SpD} (ev : Ev K mg) (h_tables_in : Has P w K mg base k "tables_in" Hd.s_tables_in [("state" : PySem.Str)] sd_tables_in) (h_state_of : Has P w K mg base k "state_of" Hd.s_state_of [("tables" : PySem.Str)] sd_state_of) {f : Addr} (cdv : Value) (A : Around) (outer : List Env) (s : Shared) (H : Hp) (E : XK) (hr : Room k (A.deeper (envOfC "state_with" (defScope Hd.s_state_with) s.heap.objs.size f cdv))) : PSsd (cxOf CX0 P w K mg base n_state_with "state_with" (defScope Hd.s_state_with) f cdv A outer s H E).nox (defBody Hd.s_state_with) (b_state_with sd_tables_in sd_state_of) :=
  have hu : A.units + 3 + 64 < cLine := hr.units
  (psd_cons (psd_set (i := 3) sc_state_with.nd rfl (by first | exact .inl rfl | exact .inr rfl) (pd_call h_tables_in hr (pda_cons (pdv 0) pda_nil))) (psd_cons (psd_for PassesOwn.never rfl (pid_any (pdv 2)) (pgd_tup rfl (pgsd_cons (pgd_name (i := 4) sc_state_with.nd rfl (.inl rfl)) (pgsd_cons (pgd_name (i := 5) sc_state_with.nd rfl (.inl rfl)) pgsd_nil))) (psd_cons (psd_expr (pd_pop2 (pd_ix hu (pdv 3) (pdv 4)) (pdv 1) pd_non ⟨rfl, rfl, rfl, rfl⟩)) (psd_one (psd_if (pt_notN (pdv 5)) (psd_one (psd_put hu (pd_ix hu (pdv 3) (pdv 4)) (pdv 1) (pdv 5))) psd_nil)))) (psd_one (psd_ret (pd_call h_state_of hr (pda_cons (pdv 3) pda_nil))))))
abbrev n_with_key_rows : List PySem.Str := [("schema" : PySem.Str), ("state" : PySem.Str), ("key" : PySem.Str), ("rows" : PySem.Str)]
theorem sc_with_key_rows : FnScope n_with_key_rows [("schema" : PySem.Str), ("state" : PySem.Str), ("key" : PySem.Str), ("rows" : PySem.Str)] (defScope Hd.s_with_key_rows) := ⟨rfl, rfl, rfl, by decide +kernel, rfl, by decide +kernel, by decide +kernel⟩
def b_with_key_rows (sd_check_schema : SpD) (sd_check_state : SpD) (sd_check_key : SpD) (sd_are_key_rows : SpD) (sd_state_with : SpD) : DS := (dSeq (dDrop (dCall sd_check_schema (dCons (dVar 0) dNil))) (dSeq (dDrop (dCall sd_check_state (dCons (dVar 0) (dCons (dVar 1) dNil)))) (dSeq (dDrop (dCall sd_check_key (dCons (dVar 2) dNil))) (dSeq (dIfS (dNot (dTru (dCall sd_are_key_rows (dCons (dVar 0) (dCons (dVar 3) dNil))))) dNever dNext) (dRet (dCall sd_state_with (dCons (dVar 1) (dCons (dVar 2) (dCons (dVar 3) dNil)))))))))
theorem w_with_key_rows {P : Program} {w : World} {K : PySem.W.Frag} {mg : PySem.Str → Option Value} {base : Heap} {k : Nat} {sd_check_schema sd_check_state sd_check_key sd_are_key_rows sd_state_with : SpD} (ev : Ev K mg) (h_check_schema : Has P w K mg base k "check_schema" Hd.s_check_schema [("schema" : PySem.Str)] sd_check_schema) (h_check_state : Has P w K mg base k "check_state" Hd.s_check_state [("schema" : PySem.Str), ("state" : PySem.Str)] sd_check_state) (h_check_key : Has P w K mg base k "check_key" Hd.s_check_key [("key" : PySem.Str)] sd_check_key) (h_are_key_rows : Has P w K mg base k "are_key_rows" Hd.s_are_key_rows [("schema" : PySem.Str), ("value" : PySem.Str)] sd_are_key_rows) (h_state_with : Has P w K mg base k "state_with" Hd.s_state_with [("state" : PySem.Str), ("key" : PySem.Str), ("rows" : PySem.Str)] sd_state_with) {f : Addr} (cdv : Value) (A : Around) (outer : List Env) (s : Shared) (H : Hp) (E : XK) (hr : Room k (A.deeper (envOfC "with_key_rows" (defScope Hd.s_with_key_rows) s.heap.objs.size f cdv))) : PSsd (cxOf CX0 P w K mg base n_with_key_rows "with_key_rows" (defScope Hd.s_with_key_rows) f cdv A outer s H E).nox (defBody Hd.s_with_key_rows) (b_with_key_rows sd_check_schema sd_check_state sd_check_key sd_are_key_rows sd_state_with) :=
  have hu : A.units + 3 + 64 < cLine := hr.units
  (psd_cons (psd_expr (pd_call h_check_schema hr (pda_cons (pdv 0) pda_nil))) (psd_cons (psd_expr (pd_call h_check_state hr (pda_cons (pdv 0) (pda_cons (pdv 1) pda_nil)))) (psd_cons (psd_expr (pd_call h_check_key hr (pda_cons (pdv 2) pda_nil))) (psd_cons (psd_if (pt_notD (pt_tru (pd_call h_are_key_rows hr (pda_cons (pdv 0) (pda_cons (pdv 3) pda_nil))))) (psd_one psd_never) psd_nil) (psd_one (psd_ret (pd_call h_state_with hr (pda_cons (pdv 1) (pda_cons (pdv 2) (pda_cons (pdv 3) pda_nil))))))))))
abbrev n__law_pot : List PySem.Str := [("script" : PySem.Str), ("place" : PySem.Str), ("cell" : PySem.Str), ("own" : PySem.Str), ("small" : PySem.Str)]
theorem sc__law_pot : FnScope n__law_pot [("script" : PySem.Str), ("place" : PySem.Str)] (defScope Hd.s__law_pot) := ⟨rfl, rfl, rfl, by decide +kernel, rfl, by decide +kernel, by decide +kernel⟩
def b__law_pot : DS := (dSeq (dAsg (dIf (dB (dOp rLtD (dVar 1) (dCa rLenD (dCons (dVar 0) dNil)))) (dOp rIxD (dVar 0) (dVar 1)) (dOp rAddD (dOp rAddD (dOp rModD (dCa rSumD (dCons (dSlA (dVar 0) dNoPart (dPart (dC (.int 1)))) dNil)) (dC (.int 1000003))) (dOp rMulD (dC (.int 1566)) (dVar 1))) (dC (.int 804)))) (gdName 2)) (dSeq (dAsg (dOp rMulD (dOp rModD (dCa rIntD (dCons (dCa rAbsD (dCons (dVar 2) dNil)) dNil)) (dOp rPowWD (dOp rPowD (dC (.int 10)) (dC (.int 60))) (dC (.int 5)))) (dCa rIntD (dCons (dOp rGeD (dCa rAbsD (dCons (dVar 2) dNil)) (dOp rPowD (dC (.int 10)) (dC (.int 18)))) dNil))) (gdName 3)) (dSeq (dAsg (dOp rModD (dCa rIntD (dCons (dVar 2) dNil)) (dC (.int 2305843009213693951))) (gdName 4)) (dRet (dNew (dLst (dCons (dVar 3) (dCons (dOp rModD (dCa rIntD (dCons (dOp rAddD (dOp rAddD (dOp rMulD (dVar 4) (dC (.int 73992))) (dOp rMulD (dOp rMulD (dC (.int 8502)) (dVar 1)) (dVar 1))) (dC (.int 748))) dNil)) (dC (.int 2305843009213693921))) (dCons (dC (.int 0)) dNil)))))))))
theorem w__law_pot {P : Program} {w : World} {K : PySem.W.Frag} {mg : PySem.Str → Option Value} {base : Heap} {k : Nat} (ev : Ev K mg) {f : Addr} (cdv : Value) (A : Around) (outer : List Env) (s : Shared) (H : Hp) (E : XK) (hr : Room k (A.deeper (envOfC "_law_pot" (defScope Hd.s__law_pot) s.heap.objs.size f cdv))) : PSsd (cxOf CX0 P w K mg base n__law_pot "_law_pot" (defScope Hd.s__law_pot) f cdv A outer s H E).nox (defBody Hd.s__law_pot) b__law_pot :=
  have hu : A.units + 3 + 64 < cLine := hr.units
  (psd_cons (psd_set (i := 2) sc__law_pot.nd rfl (by first | exact .inl rfl | exact .inr rfl) (pd_ite (pt_lt (pdv 1) (pd_callB cr_lenA ab_len ev.m_len (pda_cons (pdv 0) pda_nil))) (pd_ix hu (pdv 0) (pdv 1)) (pd_add (pd_add (pd_mod (pd_callB (cr_sum rfl) ab_sum ev.m_sum (pda_cons (pd_slA (pdv 0) pdo_none (pdo_some pd_int)) pda_nil)) pd_int) (pd_mul pd_int (pdv 1))) pd_int))) (psd_cons (psd_set (i := 3) sc__law_pot.nd rfl (by first | exact .inl rfl | exact .inr rfl) (pd_mul (pd_mod (pd_callTy call_int1 ab_int ev.m_int (pda_cons (pd_callB call_abs ab_abs ev.m_abs (pda_cons (pdv 2) pda_nil)) pda_nil)) (pd_powW (pd_pow pd_int pd_int) pd_int)) (pd_callTy call_int1 ab_int ev.m_int (pda_cons (pd_ge (pd_callB call_abs ab_abs ev.m_abs (pda_cons (pdv 2) pda_nil)) (pd_pow pd_int pd_int)) pda_nil)))) (psd_cons (psd_set (i := 4) sc__law_pot.nd rfl (by first | exact .inl rfl | exact .inr rfl) (pd_mod (pd_callTy call_int1 ab_int ev.m_int (pda_cons (pdv 2) pda_nil)) pd_int)) (psd_one (psd_ret (pd_new (pl_lst (pda_cons (pdv 3) (pda_cons (pd_mod (pd_callTy call_int1 ab_int ev.m_int (pda_cons (pd_add (pd_add (pd_mul (pdv 4) pd_int) (pd_mul (pd_mul pd_int (pdv 1)) (pdv 1))) pd_int) pda_nil)) pd_int) (pda_cons pd_int pda_nil))))))))))
abbrev n__law_take : List PySem.Str := [("pot" : PySem.Str), ("upto" : PySem.Str), ("prime" : PySem.Str), ("blend" : PySem.Str), ("digit" : PySem.Str)]
theorem sc__law_take : FnScope n__law_take [("pot" : PySem.Str), ("upto" : PySem.Str)] (defScope Hd.s__law_take) := ⟨rfl, rfl, rfl, by decide +kernel, rfl, by decide +kernel, by decide +kernel⟩
def b__law_take : DS := (dSeq (dIfS (dB (dOp rGtD (dOp rIxD (dVar 0) (dC (.int 0))) (dC (.int 0)))) (dSeq (dAsg (dOp rModD (dCa rIntD (dCons (dOp rIxD (dVar 0) (dC (.int 0))) dNil)) (dVar 1)) (gdName 4)) (dSeq (dAsg (dOp rDivD (dOp rIxD (dVar 0) (dC (.int 0))) (dVar 1)) (gdSubL (dVar 0) (dC (.int 0)))) (dRet (dVar 4)))) dNext) (dSeq (dAsg (dOp rAddD (dOp rIxD (dVar 0) (dC (.int 2))) (dC (.int 1))) (gdSubL (dVar 0) (dC (.int 2)))) (dSeq (dAsg (dOp rIxD (dFz (dLst (dCons (dC (.int 2147483647)) (dCons (dC (.int 2147483629)) (dCons (dC (.int 2147483587)) (dCons (dC (.int 2147483579)) (dCons (dC (.int 2147483563)) dNil))))))) (dOp rModD (dCa rIntD (dCons (dOp rIxD (dVar 0) (dC (.int 2))) dNil)) (dC (.int 5)))) (gdName 2)) (dSeq (dAsg (dOp rModD (dCa rIntD (dCons (dOp rPowD (dCa rIntD (dCons (dOp rAddD (dOp rAddD (dOp rIxD (dVar 0) (dC (.int 1))) (dOp rMulD (dOp rMulD (dC (.int 99884)) (dOp rIxD (dVar 0) (dC (.int 2)))) (dOp rIxD (dVar 0) (dC (.int 2))))) (dC (.int 1072))) dNil)) (dC (.int 3))) dNil)) (dVar 2)) (gdName 3)) (dSeq (dAsg (dOp rModD (dCa rIntD (dCons (dOp rMulD (dVar 3) (dOp rAddD (dOp rModD (dCa rIntD (dCons (dVar 3) dNil)) (dC (.int 10896))) (dOp rMulD (dC (.int 386)) (dOp rIxD (dVar 0) (dC (.int 2)))))) dNil)) (dC (.int 2305843009213693907))) (gdName 3)) (dRet (dOp rModD (dCa rIntD (dCons (dOp rDivD (dVar 3) (dC (.int 167))) dNil)) (dVar 1))))))))
theorem w__law_take {P : Program} {w : World} {K : PySem.W.Frag} {mg : PySem.Str → Option Value} {base : Heap} {k : Nat} (ev : Ev K mg) {f : Addr} (cdv : Value) (A : Around) (outer : List Env) (s : Shared) (H : Hp) (E : XK) (hr : Room k (A.deeper (envOfC "_law_take" (defScope Hd.s__law_take) s.heap.objs.size f cdv))) : PSsd (cxOf CX0 P w K mg base n__law_take "_law_take" (defScope Hd.s__law_take) f cdv A outer s H E).nox (defBody Hd.s__law_take) b__law_take :=
  have hu : A.units + 3 + 64 < cLine := hr.units
  (psd_cons (psd_if (pt_gt (pd_ix hu (pdv 0) pd_int) pd_int) (psd_cons (psd_set (i := 4) sc__law_take.nd rfl (by first | exact .inl rfl | exact .inr rfl) (pd_mod (pd_callTy call_int1 ab_int ev.m_int (pda_cons (pd_ix hu (pdv 0) pd_int) pda_nil)) (pdv 1))) (psd_cons (psd_asg (pd_div (pd_ix hu (pdv 0) pd_int) (pdv 1)) (pgd_subL (pdv 0) pd_int)) (psd_one (psd_ret (pdv 4))))) psd_nil) (psd_cons (psd_asg (pd_add (pd_ix hu (pdv 0) pd_int) pd_int) (pgd_subL (pdv 0) pd_int)) (psd_cons (psd_set (i := 2) sc__law_take.nd rfl (by first | exact .inl rfl | exact .inr rfl) (pd_ix hu (pd_fz (pl_lst (pda_cons pd_int (pda_cons pd_int (pda_cons pd_int (pda_cons pd_int (pda_cons pd_int pda_nil))))))) (pd_mod (pd_callTy call_int1 ab_int ev.m_int (pda_cons (pd_ix hu (pdv 0) pd_int) pda_nil)) pd_int))) (psd_cons (psd_set (i := 3) sc__law_take.nd rfl (by first | exact .inl rfl | exact .inr rfl) (pd_mod (pd_callTy call_int1 ab_int ev.m_int (pda_cons (pd_pow (pd_callTy call_int1 ab_int ev.m_int (pda_cons (pd_add (pd_add (pd_ix hu (pdv 0) pd_int) (pd_mul (pd_mul pd_int (pd_ix hu (pdv 0) pd_int)) (pd_ix hu (pdv 0) pd_int))) pd_int) pda_nil)) pd_int) pda_nil)) (pdv 2))) (psd_cons (psd_set (i := 3) sc__law_take.nd rfl (by first | exact .inl rfl | exact .inr rfl) (pd_mod (pd_callTy call_int1 ab_int ev.m_int (pda_cons (pd_mul (pdv 3) (pd_add (pd_mod (pd_callTy call_int1 ab_int ev.m_int (pda_cons (pdv 3) pda_nil)) pd_int) (pd_mul pd_int (pd_ix hu (pdv 0) pd_int)))) pda_nil)) pd_int)) (psd_one (psd_ret (pd_mod (pd_callTy call_int1 ab_int ev.m_int (pda_cons (pd_div (pdv 3) pd_int) pda_nil)) (pdv 1)))))))))
end Gk

end
section
set_option maxHeartbeats 0
namespace Gk
open PySem PySem.Spec PyProof.Rows L2 Dl
abbrev n__law_of : List PySem.Str := [("pot" : PySem.Str), ("some" : PySem.Str)]
theorem sc__law_of : FnScope n__law_of [("pot" : PySem.Str), ("some" : PySem.Str)] (defScope Hd.s__law_of) := ⟨rfl, rfl, rfl, by decide +kernel, rfl, by decide +kernel, by decide +kernel⟩
def b__law_of (sd__law_take : SpD) : DS := (dRet (dOp rIxD (dVar 1) (dCall sd__law_take (dCons (dVar 0) (dCons (dCa rLenD (dCons (dVar 1) dNil)) dNil)))))
theorem w__law_of {P : Program} {w : World} {K : PySem.W.Frag} {mg : PySem.Str → Option Value} {base : Heap} {k : Nat} {sd__law_take : SpD} (ev : Ev K mg) (h__law_take : Has P w K mg base k "_law_take" Hd.s__law_take [("pot" : PySem.Str), ("upto" : PySem.Str)] sd__law_take) {f : Addr} (cdv : Value) (A : Around) (outer : List Env) (s : Shared) (H : Hp) (E : XK) (hr : Room k (A.deeper (envOfC "_law_of" (defScope Hd.s__law_of) s.heap.objs.size f cdv))) : PSsd (cxOf CX0 P w K mg base n__law_of "_law_of" (defScope Hd.s__law_of) f cdv A outer s H E).nox (defBody Hd.s__law_of) (b__law_of sd__law_take) :=
  have hu : A.units + 3 + 64 < cLine := hr.units
  (psd_one (psd_ret (pd_ix hu (pdv 1) (pd_call h__law_take hr (pda_cons (pdv 0) (pda_cons (pd_callB cr_lenA ab_len ev.m_len (pda_cons (pdv 1) pda_nil)) pda_nil))))))
abbrev n__law_some : List PySem.Str := [("pot" : PySem.Str), ("pool" : PySem.Str), ("many" : PySem.Str), ("rests" : PySem.Str), ("found" : PySem.Str), ("lap" : PySem.Str)]
theorem sc__law_some : FnScope n__law_some [("pot" : PySem.Str), ("pool" : PySem.Str), ("many" : PySem.Str)] (defScope Hd.s__law_some) := ⟨rfl, rfl, rfl, by decide +kernel, rfl, by decide +kernel, by decide +kernel⟩
def b__law_some (sd__law_take : SpD) : DS := (dSeq (dPar 3 4 (dCons (dNew (dCa rListA (dCons (dVar 1) dNil))) (dCons (dNew (dLst dNil)) dNil))) (dSeq (dFor (dRange1 (dCons (dVar 2) dNil)) (gdName 5) (dDrop (dMtL rAppD (dVar 4) (dCons (dMtL rPopLD (dVar 3) (dCons (dCall sd__law_take (dCons (dVar 0) (dCons (dCa rLenD (dCons (dVar 3) dNil)) dNil))) dNil)) dNil)))) (dRet (dLkE (dVar 4)))))
theorem w__law_some {P : Program} {w : World} {K : PySem.W.Frag} {mg : PySem.Str → Option Value} {base : Heap} {k : Nat} {sd__law_take : SpD} (ev : Ev K mg) (h__law_take : Has P w K mg base k "_law_take" Hd.s__law_take [("pot" : PySem.Str), ("upto" : PySem.Str)] sd__law_take) {f : Addr} (cdv : Value) (A : Around) (outer : List Env) (s : Shared) (H : Hp) (E : XK) (hr : Room k (A.deeper (envOfC "_law_some" (defScope Hd.s__law_some) s.heap.objs.size f cdv))) : PSsd (cxOf CX0 P w K mg base n__law_some "_law_some" (defScope Hd.s__law_some) f cdv A outer s H E).nox (defBody Hd.s__law_some) (b__law_some sd__law_take) :=
  have hu : A.units + 3 + 64 < cLine := hr.units
  (psd_cons (psd_par (i := 3) (j := 4) rfl sc__law_some.nd rfl rfl (by decide) rfl rfl (pda_cons (pd_new (pl_callTy (cr_listA rfl) ab_listA ev.m_list (pda_cons (pdv 1) pda_nil))) (pda_cons (pd_new (pl_lst pda_nil)) pda_nil)) rfl) (psd_cons (psd_for PassesOwn.never rfl (pid_range1 ev.m_range (pda_cons (pdv 2) pda_nil)) (pgd_name (i := 5) sc__law_some.nd rfl (.inl rfl)) (psd_one (psd_expr (pd_append (pdv 4) (pda_cons (pd_popL (pdv 3) (pda_cons (pd_call h__law_take hr (pda_cons (pdv 0) (pda_cons (pd_callB cr_lenA ab_len ev.m_len (pda_cons (pdv 3) pda_nil)) pda_nil))) pda_nil)) pda_nil))))) (psd_one (psd_ret (pd_lk (pdv 4))))))
abbrev n__law_cells : List PySem.Str := [("script" : PySem.Str), ("most" : PySem.Str)]
theorem sc__law_cells : FnScope n__law_cells [("script" : PySem.Str), ("most" : PySem.Str)] (defScope Hd.s__law_cells) := ⟨rfl, rfl, rfl, by decide +kernel, rfl, by decide +kernel, by decide +kernel⟩
def b__law_cells : DS := (dRet (dFz (dListRg1 (dCa rMax2D (dCons (dC (.int 1)) (dCons (dCa rMin2D (dCons (dVar 1) (dCons (dCa rLenD (dCons (dVar 0) dNil)) dNil))) dNil))))))
theorem w__law_cells {P : Program} {w : World} {K : PySem.W.Frag} {mg : PySem.Str → Option Value} {base : Heap} {k : Nat} (ev : Ev K mg) {f : Addr} (cdv : Value) (A : Around) (outer : List Env) (s : Shared) (H : Hp) (E : XK) (hr : Room k (A.deeper (envOfC "_law_cells" (defScope Hd.s__law_cells) s.heap.objs.size f cdv))) : PSsd (cxOf CX0 P w K mg base n__law_cells "_law_cells" (defScope Hd.s__law_cells) f cdv A outer s H E).nox (defBody Hd.s__law_cells) b__law_cells :=
  have hu : A.units + 3 + 64 < cLine := hr.units
  (psd_one (psd_ret (pd_fz (pl_listRg1 rfl ev.m_list ev.m_range (pd_callB (call_max2 rfl) ab_max2 ev.m_max (pda_cons pd_int (pda_cons (pd_callB (call_min2 rfl) ab_min2 ev.m_min (pda_cons (pdv 1) (pda_cons (pd_callB cr_lenA ab_len ev.m_len (pda_cons (pdv 0) pda_nil)) pda_nil))) pda_nil)))))))
abbrev n__law_is_int : List PySem.Str := [("value" : PySem.Str), ("low" : PySem.Str), ("high" : PySem.Str)]
theorem sc__law_is_int : FnScope n__law_is_int [("value" : PySem.Str), ("low" : PySem.Str), ("high" : PySem.Str)] (defScope Hd.s__law_is_int) := ⟨rfl, rfl, rfl, by decide +kernel, rfl, by decide +kernel, by decide +kernel⟩
def b__law_is_int : DS := (dRet (dAndV (dCa rIsiD (dCons (dVar 0) (dCons (dC (.ty "int")) dNil))) (dAndV (dNotV (dCa rIsiD (dCons (dVar 0) (dCons (dC (.ty "bool")) dNil)))) (dChain rLeD rLeD (dVar 1) (dVar 0) (dVar 2)))))
theorem w__law_is_int {P : Program} {w : World} {K : PySem.W.Frag} {mg : PySem.Str → Option Value} {base : Heap} {k : Nat} (ev : Ev K mg) {f : Addr} (cdv : Value) (A : Around) (outer : List Env) (s : Shared) (H : Hp) (E : XK) (hr : Room k (A.deeper (envOfC "_law_is_int" (defScope Hd.s__law_is_int) s.heap.objs.size f cdv))) : PSsd (cxOf CX0 P w K mg base n__law_is_int "_law_is_int" (defScope Hd.s__law_is_int) f cdv A outer s H E).nox (defBody Hd.s__law_is_int) b__law_is_int :=
  have hu : A.units + 3 + 64 < cLine := hr.units
  (psd_one (psd_ret (pd_and (pd_callB call_isi ab_isi ev.m_isinstance (pda_cons (pdv 0) (pda_cons (pd_ty rfl ev.m_int) pda_nil))) (pd_and (pd_not (pd_callB call_isi ab_isi ev.m_isinstance (pda_cons (pdv 0) (pda_cons (pd_ty rfl ev.m_bool) pda_nil)))) (pd_one (pd_lele (pdv 1) (pdv 0) (pdv 2)))))))
abbrev n__law_state_is_text : List PySem.Str := [("value" : PySem.Str), ("sign" : PySem.Str)]
theorem sc__law_state_is_text : FnScope n__law_state_is_text [("value" : PySem.Str)] (defScope Hd.s__law_state_is_text) := ⟨rfl, rfl, rfl, by decide +kernel, rfl, by decide +kernel, by decide +kernel⟩
def b__law_state_is_text : DS := (dRet (dAndV (dCa rIsiD (dCons (dVar 0) (dCons (dC (.ty "str")) dNil))) (dAndV (dOp rLeD (dCa rLenD (dCons (dVar 0) dNil)) (dC (.int 12))) (dCa rAllD (dCons (dFz (dLc (dIt (dVar 0)) (gdName 1) dYes (dChain rLeD rLeD (dC (.str ("!" : PySem.Str))) (dVar 1) (dC (.str ("~" : PySem.Str)))) (([(("sign" : PySem.Str), 1)] : List (PySem.Str × Nat)).map (·.2)))) dNil)))))
theorem w__law_state_is_text {P : Program} {w : World} {K : PySem.W.Frag} {mg : PySem.Str → Option Value} {base : Heap} {k : Nat} (ev : Ev K mg) {f : Addr} (cdv : Value) (A : Around) (outer : List Env) (s : Shared) (H : Hp) (E : XK) (hr : Room k (A.deeper (envOfC "_law_state_is_text" (defScope Hd.s__law_state_is_text) s.heap.objs.size f cdv))) : PSsd (cxOf CX0 P w K mg base n__law_state_is_text "_law_state_is_text" (defScope Hd.s__law_state_is_text) f cdv A outer s H E).nox (defBody Hd.s__law_state_is_text) b__law_state_is_text :=
  have hu : A.units + 3 + 64 < cLine := hr.units
  (psd_one (psd_ret (pd_and (pd_callB call_isi ab_isi ev.m_isinstance (pda_cons (pdv 0) (pda_cons (pd_ty rfl ev.m_str) pda_nil))) (pd_and (pd_le (pd_callB cr_lenA ab_len ev.m_len (pda_cons (pdv 0) pda_nil)) pd_int) (pd_one (pd_callB (cr_all rfl) ab_all ev.m_all (pda_cons (pd_fz (pl_lc (own := [(("sign" : PySem.Str), 1)]) rfl sc__law_state_is_text.nd (pid_any (pdv 0)) (blkOk_by (N := n__law_state_is_text) (sc := defScope Hd.s__law_state_is_text) (by decide +kernel)) (fun _ => (pgw_name (i := 1) (by decide) sc__law_state_is_text.nd rfl (by first | exact .inl rfl | exact .inr rfl))) (fun _ => ptsd_nil) (fun _ => (pd_lele pd_str (pdv 1) pd_str)))) pda_nil)))))))
abbrev n__law_state_is_of : List PySem.Str := [("value" : PySem.Str), ("kind" : PySem.Str)]
theorem sc__law_state_is_of : FnScope n__law_state_is_of [("value" : PySem.Str), ("kind" : PySem.Str)] (defScope Hd.s__law_state_is_of) := ⟨rfl, rfl, rfl, by decide +kernel, rfl, by decide +kernel, by decide +kernel⟩
def b__law_state_is_of (sd__law_is_int : SpD) (sd__law_state_is_text : SpD) : DS := (dSeq (dIfS (dB (dIsN (dVar 0))) (dRet (dC (.bl true))) dNext) (dRet (dIf (dB (dOp rEqD (dVar 1) (dC (.str ("int" : PySem.Str))))) (dCall sd__law_is_int (dCons (dVar 0) (dCons (dOp rSubD (dC (.int 1)) (dOp rPowD (dC (.int 10)) (dC (.int 11)))) (dCons (dOp rSubD (dOp rPowD (dC (.int 10)) (dC (.int 11))) (dC (.int 1))) dNil)))) (dCall sd__law_state_is_text (dCons (dVar 0) dNil)))))
theorem w__law_state_is_of {P : Program} {w : World} {K : PySem.W.Frag} {mg : PySem.Str → Option Value} {base : Heap} {k : Nat} {sd__law_is_int sd__law_state_is_text : SpD} (ev : Ev K mg) (h__law_is_int : Has P w K mg base k "_law_is_int" Hd.s__law_is_int [("value" : PySem.Str), ("low" : PySem.Str), ("high" : PySem.Str)] sd__law_is_int) (h__law_state_is_text : Has P w K mg base k "_law_state_is_text" Hd.s__law_state_is_text [("value" : PySem.Str)] sd__law_state_is_text) {f : Addr} (cdv : Value) (A : Around) (outer : List Env) (s : Shared) (H : Hp) (E : XK) (hr : Room k (A.deeper (envOfC "_law_state_is_of" (defScope Hd.s__law_state_is_of) s.heap.objs.size f cdv))) : PSsd (cxOf CX0 P w K mg base n__law_state_is_of "_law_state_is_of" (defScope Hd.s__law_state_is_of) f cdv A outer s H E).nox (defBody Hd.s__law_state_is_of) (b__law_state_is_of sd__law_is_int sd__law_state_is_text) :=
  have hu : A.units + 3 + 64 < cLine := hr.units
  (psd_cons (psd_if (pt_isN (pdv 0)) (psd_one (psd_ret pd_bl)) psd_nil) (psd_one (psd_ret (pd_ite (pt_eq hu (pdv 1) pd_str) (pd_call h__law_is_int hr (pda_cons (pdv 0) (pda_cons (pd_sub pd_int (pd_pow pd_int pd_int)) (pda_cons (pd_sub (pd_pow pd_int pd_int) pd_int) pda_nil)))) (pd_call h__law_state_is_text hr (pda_cons (pdv 0) pda_nil))))))
abbrev n__law_state_are_values : List PySem.Str := [("columns" : PySem.Str), ("value" : PySem.Str), ("one" : PySem.Str), ("name" : PySem.Str), ("kind" : PySem.Str)]
theorem sc__law_state_are_values : FnScope n__law_state_are_values [("columns" : PySem.Str), ("value" : PySem.Str)] (defScope Hd.s__law_state_are_values) := ⟨rfl, rfl, rfl, by decide +kernel, rfl, by decide +kernel, by decide +kernel⟩
def b__law_state_are_values (sd__law_state_is_of : SpD) : DS := (dSeq (dIfS (dOr (dNot (dTru (dCa rIsiD (dCons (dVar 1) (dCons (dC (.ty "tuple")) dNil))))) (dB (dOp rNeD (dCa rLenD (dCons (dVar 1) dNil)) (dCa rLenD (dCons (dVar 0) dNil))))) (dRet (dC (.bl false))) dNext) (dRet (dCa rAllD (dCons (dFz (dLc (dZipX (dCons (dVar 1) (dCons (dVar 0) dNil))) (gdTup 2 (gdCons (gdName 2) (gdCons (gdTup 2 (gdCons (gdName 3) (gdCons (gdName 4) gdNil))) gdNil))) dYes (dCall sd__law_state_is_of (dCons (dVar 2) (dCons (dVar 4) dNil))) (([(("one" : PySem.Str), 2), (("name" : PySem.Str), 3), (("kind" : PySem.Str), 4)] : List (PySem.Str × Nat)).map (·.2)))) dNil))))
theorem w__law_state_are_values {P : Program} {w : World} {K : PySem.W.Frag} {mg : PySem.Str → Option Value} {base : Heap} {k : Nat} {sd__law_state_is_of : SpD} (ev : Ev K mg) (h__law_state_is_of : Has P w K mg base k "_law_state_is_of" Hd.s__law_state_is_of [("value" : PySem.Str), ("kind" : PySem.Str)] sd__law_state_is_of) {f : Addr} (cdv : Value) (A : Around) (outer : List Env) (s : Shared) (H : Hp) (E : XK) (hr : Room k (A.deeper (envOfC "_law_state_are_values" (defScope Hd.s__law_state_are_values) s.heap.objs.size f cdv))) : PSsd (cxOf CX0 P w K mg base n__law_state_are_values "_law_state_are_values" (defScope Hd.s__law_state_are_values) f cdv A outer s H E).nox (defBody Hd.s__law_state_are_values) (b__law_state_are_values sd__law_state_is_of) :=
  have hu : A.units + 3 + 64 < cLine := hr.units
  (psd_cons (psd_if (pt_w (pw_orD (pt_notD (pt_tru (pd_callB call_isi ab_isi ev.m_isinstance (pda_cons (pdv 1) (pda_cons (pd_ty rfl ev.m_tuple) pda_nil))))) (pw_oneO (pt_ne hu (pd_callB cr_lenA ab_len ev.m_len (pda_cons (pdv 1) pda_nil)) (pd_callB cr_lenA ab_len ev.m_len (pda_cons (pdv 0) pda_nil)))))) (psd_one (psd_ret pd_bl)) psd_nil) (psd_one (psd_ret (pd_callB (cr_all rfl) ab_all ev.m_all (pda_cons (pd_fz (pl_lc (own := [(("one" : PySem.Str), 2), (("name" : PySem.Str), 3), (("kind" : PySem.Str), 4)]) rfl sc__law_state_are_values.nd (pid_zipX ev.m_zip (pda_cons (pdv 1) (pda_cons (pdv 0) pda_nil))) (blkOk_by (N := n__law_state_are_values) (sc := defScope Hd.s__law_state_are_values) (by decide +kernel)) (fun _ => (pgw_tup rfl (pgsw_cons (pgw_name (i := 2) (by decide) sc__law_state_are_values.nd rfl (by first | exact .inl rfl | exact .inr rfl)) (pgsw_cons (pgw_tup rfl (pgsw_cons (pgw_name (i := 3) (by decide) sc__law_state_are_values.nd rfl (by first | exact .inl rfl | exact .inr rfl)) (pgsw_cons (pgw_name (i := 4) (by decide) sc__law_state_are_values.nd rfl (by first | exact .inl rfl | exact .inr rfl)) pgsw_nil))) pgsw_nil)))) (fun _ => ptsd_nil) (fun _ => (pd_call h__law_state_is_of hr (pda_cons (pdv 2) (pda_cons (pdv 4) pda_nil)))))) pda_nil)))))
abbrev n__law_state_copy : List PySem.Str := [("own" : PySem.Str), ("columns" : PySem.Str), ("rows" : PySem.Str), ("table" : PySem.Str), ("some" : PySem.Str)]
theorem sc__law_state_copy : FnScope n__law_state_copy [("own" : PySem.Str)] (defScope Hd.s__law_state_copy) := ⟨rfl, rfl, rfl, by decide +kernel, rfl, by decide +kernel, by decide +kernel⟩
def b__law_state_copy : DS := (dSeq (dAsg (dFzK (dCa rDictD (dCons (dFz (dLc (dItems (dOp rIxD (dVar 0) (dC (.str ("columns" : PySem.Str))))) (gdTup 2 (gdCons (gdName 3) (gdCons (gdName 4) gdNil))) dYes (dTup (dCons (dVar 3) (dCons (dFz (dCa rListA (dCons (dVar 4) dNil))) dNil))) (([(("table" : PySem.Str), 3), (("some" : PySem.Str), 4)] : List (PySem.Str × Nat)).map (·.2)))) dNil))) (gdName 1)) (dSeq (dAsg (dFzK (dCa rDictD (dCons (dFz (dLc (dItems (dOp rIxD (dVar 0) (dC (.str ("rows" : PySem.Str))))) (gdTup 2 (gdCons (gdName 3) (gdCons (gdName 4) gdNil))) dYes (dTup (dCons (dVar 3) (dCons (dNewK (dCa rDictD (dCons (dFz (dLItems (dVar 4))) dNil))) dNil))) (([(("table" : PySem.Str), 3), (("some" : PySem.Str), 4)] : List (PySem.Str × Nat)).map (·.2)))) dNil))) (gdName 2)) (dRet (dFzK (dDisp [((dC (.str ("columns" : PySem.Str))), (dVar 1)), ((dC (.str ("rows" : PySem.Str))), (dVar 2))])))))
theorem w__law_state_copy {P : Program} {w : World} {K : PySem.W.Frag} {mg : PySem.Str → Option Value} {base : Heap} {k : Nat} (ev : Ev K mg) {f : Addr} (cdv : Value) (A : Around) (outer : List Env) (s : Shared) (H : Hp) (E : XK) (hr : Room k (A.deeper (envOfC "_law_state_copy" (defScope Hd.s__law_state_copy) s.heap.objs.size f cdv))) : PSsd (cxOf CX0 P w K mg base n__law_state_copy "_law_state_copy" (defScope Hd.s__law_state_copy) f cdv A outer s H E).nox (defBody Hd.s__law_state_copy) b__law_state_copy :=
  have hu : A.units + 3 + 64 < cLine := hr.units
  (psd_cons (psd_set (i := 1) sc__law_state_copy.nd rfl (by first | exact .inl rfl | exact .inr rfl) (pd_fzK (pk_callTy (call_dictP rfl) ab_dict ev.m_dict (pda_cons (pd_fz (pl_lc (own := [(("table" : PySem.Str), 3), (("some" : PySem.Str), 4)]) rfl sc__law_state_copy.nd (pid_items (pd_ix hu (pdv 0) pd_str)) (blkOk_by (N := n__law_state_copy) (sc := defScope Hd.s__law_state_copy) (by decide +kernel)) (fun _ => (pgw_tup rfl (pgsw_cons (pgw_name (i := 3) (by decide) sc__law_state_copy.nd rfl (by first | exact .inl rfl | exact .inr rfl)) (pgsw_cons (pgw_name (i := 4) (by decide) sc__law_state_copy.nd rfl (by first | exact .inl rfl | exact .inr rfl)) pgsw_nil)))) (fun _ => ptsd_nil) (fun _ => (pd_tup (pda_cons (pdv 3) (pda_cons (pd_fz (pl_callTy (cr_listA rfl) ab_listA ev.m_list (pda_cons (pdv 4) pda_nil))) pda_nil)))))) pda_nil)))) (psd_cons (psd_set (i := 2) sc__law_state_copy.nd rfl (by first | exact .inl rfl | exact .inr rfl) (pd_fzK (pk_callTy (call_dictP rfl) ab_dict ev.m_dict (pda_cons (pd_fz (pl_lc (own := [(("table" : PySem.Str), 3), (("some" : PySem.Str), 4)]) rfl sc__law_state_copy.nd (pid_items (pd_ix hu (pdv 0) pd_str)) (blkOk_by (N := n__law_state_copy) (sc := defScope Hd.s__law_state_copy) (by decide +kernel)) (fun _ => (pgw_tup rfl (pgsw_cons (pgw_name (i := 3) (by decide) sc__law_state_copy.nd rfl (by first | exact .inl rfl | exact .inr rfl)) (pgsw_cons (pgw_name (i := 4) (by decide) sc__law_state_copy.nd rfl (by first | exact .inl rfl | exact .inr rfl)) pgsw_nil)))) (fun _ => ptsd_nil) (fun _ => (pd_tup (pda_cons (pdv 3) (pda_cons (pd_newK (pk_callTy (call_dictP rfl) ab_dict ev.m_dict (pda_cons (pd_fz (pl_listItems rfl ev.m_list (pdv 4))) pda_nil))) pda_nil)))))) pda_nil)))) (psd_one (psd_ret (pd_fzK (pk_disp (ppsd_cons pd_str (pdv 1) (ppsd_cons pd_str (pdv 2) ppsd_nil))))))))
abbrev n__law_state_schema : List PySem.Str := [("own" : PySem.Str), ("table" : PySem.Str), ("some" : PySem.Str)]
theorem sc__law_state_schema : FnScope n__law_state_schema [("own" : PySem.Str)] (defScope Hd.s__law_state_schema) := ⟨rfl, rfl, rfl, by decide +kernel, rfl, by decide +kernel, by decide +kernel⟩
def b__law_state_schema : DS := (dRet (dCa rTupleD (dCons (dFz (dCa rSorted (dCons (dFz (dLc (dItems (dOp rIxD (dVar 0) (dC (.str ("columns" : PySem.Str))))) (gdTup 2 (gdCons (gdName 1) (gdCons (gdName 2) gdNil))) dYes (dTup (dCons (dVar 1) (dCons (dCa rTupleD (dCons (dVar 2) dNil)) dNil))) (([(("table" : PySem.Str), 1), (("some" : PySem.Str), 2)] : List (PySem.Str × Nat)).map (·.2)))) dNil))) dNil)))
theorem w__law_state_schema {P : Program} {w : World} {K : PySem.W.Frag} {mg : PySem.Str → Option Value} {base : Heap} {k : Nat} (ev : Ev K mg) {f : Addr} (cdv : Value) (A : Around) (outer : List Env) (s : Shared) (H : Hp) (E : XK) (hr : Room k (A.deeper (envOfC "_law_state_schema" (defScope Hd.s__law_state_schema) s.heap.objs.size f cdv))) : PSsd (cxOf CX0 P w K mg base n__law_state_schema "_law_state_schema" (defScope Hd.s__law_state_schema) f cdv A outer s H E).nox (defBody Hd.s__law_state_schema) b__law_state_schema :=
  have hu : A.units + 3 + 64 < cLine := hr.units
  (psd_one (psd_ret (pd_callTy call_tuple_of ab_tuple ev.m_tuple (pda_cons (pd_fz (pl_callB (cr_sortedV rfl) ab_sorted ev.m_sorted (pda_cons (pd_fz (pl_lc (own := [(("table" : PySem.Str), 1), (("some" : PySem.Str), 2)]) rfl sc__law_state_schema.nd (pid_items (pd_ix hu (pdv 0) pd_str)) (blkOk_by (N := n__law_state_schema) (sc := defScope Hd.s__law_state_schema) (by decide +kernel)) (fun _ => (pgw_tup rfl (pgsw_cons (pgw_name (i := 1) (by decide) sc__law_state_schema.nd rfl (by first | exact .inl rfl | exact .inr rfl)) (pgsw_cons (pgw_name (i := 2) (by decide) sc__law_state_schema.nd rfl (by first | exact .inl rfl | exact .inr rfl)) pgsw_nil)))) (fun _ => ptsd_nil) (fun _ => (pd_tup (pda_cons (pdv 1) (pda_cons (pd_callTy call_tuple_of ab_tuple ev.m_tuple (pda_cons (pdv 2) pda_nil)) pda_nil)))))) pda_nil))) pda_nil))))
abbrev n__law_state_told : List PySem.Str := [("own" : PySem.Str), ("found" : PySem.Str), ("table" : PySem.Str), ("rows" : PySem.Str), ("key" : PySem.Str)]
theorem sc__law_state_told : FnScope n__law_state_told [("own" : PySem.Str)] (defScope Hd.s__law_state_told) := ⟨rfl, rfl, rfl, by decide +kernel, rfl, by decide +kernel, by decide +kernel⟩
def b__law_state_told : DS := (dSeq (dAsg (dNew (dLst dNil)) (gdName 1)) (dSeq (dFor (dIt (dFz (dCa rSorted (dCons (dOp rIxD (dVar 0) (dC (.str ("rows" : PySem.Str)))) dNil)))) (gdName 2) (dSeq (dAsg (dOp rIxD (dOp rIxD (dVar 0) (dC (.str ("rows" : PySem.Str)))) (dVar 2)) (gdName 3)) (dDrop (dMtL rAppD (dVar 1) (dCons (dTup (dCons (dVar 2) (dCons (dCa rTupleD (dCons (dFz (dLc (dIt (dFz (dCa rSorted (dCons (dVar 3) dNil)))) (gdName 4) dYes (dTup (dCons (dVar 4) (dCons (dOp rIxD (dVar 3) (dVar 4)) dNil))) (([(("key" : PySem.Str), 4)] : List (PySem.Str × Nat)).map (·.2)))) dNil)) dNil))) dNil))))) (dRet (dCa rTupleD (dCons (dVar 1) dNil)))))
theorem w__law_state_told {P : Program} {w : World} {K : PySem.W.Frag} {mg : PySem.Str → Option Value} {base : Heap} {k : Nat} (ev : Ev K mg) {f : Addr} (cdv : Value) (A : Around) (outer : List Env) (s : Shared) (H : Hp) (E : XK) (hr : Room k (A.deeper (envOfC "_law_state_told" (defScope Hd.s__law_state_told) s.heap.objs.size f cdv))) : PSsd (cxOf CX0 P w K mg base n__law_state_told "_law_state_told" (defScope Hd.s__law_state_told) f cdv A outer s H E).nox (defBody Hd.s__law_state_told) b__law_state_told :=
  have hu : A.units + 3 + 64 < cLine := hr.units
  (psd_cons (psd_set (i := 1) sc__law_state_told.nd rfl (by first | exact .inl rfl | exact .inr rfl) (pd_new (pl_lst pda_nil))) (psd_cons (psd_for PassesOwn.never rfl (pid_any (pd_fz (pl_callB (cr_sortedV rfl) ab_sorted ev.m_sorted (pda_cons (pd_ix hu (pdv 0) pd_str) pda_nil)))) (pgd_name (i := 2) sc__law_state_told.nd rfl (.inl rfl)) (psd_cons (psd_set (i := 3) sc__law_state_told.nd rfl (by first | exact .inl rfl | exact .inr rfl) (pd_ix hu (pd_ix hu (pdv 0) pd_str) (pdv 2))) (psd_one (psd_expr (pd_append (pdv 1) (pda_cons (pd_tup (pda_cons (pdv 2) (pda_cons (pd_callTy call_tuple_of ab_tuple ev.m_tuple (pda_cons (pd_fz (pl_lc (own := [(("key" : PySem.Str), 4)]) rfl sc__law_state_told.nd (pid_any (pd_fz (pl_callB (cr_sortedV rfl) ab_sorted ev.m_sorted (pda_cons (pdv 3) pda_nil)))) (blkOk_by (N := n__law_state_told) (sc := defScope Hd.s__law_state_told) (by decide +kernel)) (fun _ => (pgw_name (i := 4) (by decide) sc__law_state_told.nd rfl (by first | exact .inl rfl | exact .inr rfl))) (fun _ => ptsd_nil) (fun _ => (pd_tup (pda_cons (pdv 4) (pda_cons (pd_ix hu (pdv 3) (pdv 4)) pda_nil)))))) pda_nil)) pda_nil))) pda_nil)))))) (psd_one (psd_ret (pd_callTy call_tuple_of ab_tuple ev.m_tuple (pda_cons (pdv 1) pda_nil))))))
abbrev n__law_state_keyed : List PySem.Str := [("own" : PySem.Str), ("key" : PySem.Str), ("table" : PySem.Str)]
theorem sc__law_state_keyed : FnScope n__law_state_keyed [("own" : PySem.Str), ("key" : PySem.Str)] (defScope Hd.s__law_state_keyed) := ⟨rfl, rfl, rfl, by decide +kernel, rfl, by decide +kernel, by decide +kernel⟩
def b__law_state_keyed : DS := (dRet (dCa rTupleD (dCons (dFz (dLc (dIt (dFz (dCa rSorted (dCons (dOp rIxD (dVar 0) (dC (.str ("rows" : PySem.Str)))) dNil)))) (gdName 2) dYes (dTup (dCons (dVar 2) (dCons (dGet1 (dOp rIxD (dOp rIxD (dVar 0) (dC (.str ("rows" : PySem.Str)))) (dVar 2)) (dVar 1)) dNil))) (([(("table" : PySem.Str), 2)] : List (PySem.Str × Nat)).map (·.2)))) dNil)))
theorem w__law_state_keyed {P : Program} {w : World} {K : PySem.W.Frag} {mg : PySem.Str → Option Value} {base : Heap} {k : Nat} (ev : Ev K mg) {f : Addr} (cdv : Value) (A : Around) (outer : List Env) (s : Shared) (H : Hp) (E : XK) (hr : Room k (A.deeper (envOfC "_law_state_keyed" (defScope Hd.s__law_state_keyed) s.heap.objs.size f cdv))) : PSsd (cxOf CX0 P w K mg base n__law_state_keyed "_law_state_keyed" (defScope Hd.s__law_state_keyed) f cdv A outer s H E).nox (defBody Hd.s__law_state_keyed) b__law_state_keyed :=
  have hu : A.units + 3 + 64 < cLine := hr.units
  (psd_one (psd_ret (pd_callTy call_tuple_of ab_tuple ev.m_tuple (pda_cons (pd_fz (pl_lc (own := [(("table" : PySem.Str), 2)]) rfl sc__law_state_keyed.nd (pid_any (pd_fz (pl_callB (cr_sortedV rfl) ab_sorted ev.m_sorted (pda_cons (pd_ix hu (pdv 0) pd_str) pda_nil)))) (blkOk_by (N := n__law_state_keyed) (sc := defScope Hd.s__law_state_keyed) (by decide +kernel)) (fun _ => (pgw_name (i := 2) (by decide) sc__law_state_keyed.nd rfl (by first | exact .inl rfl | exact .inr rfl))) (fun _ => ptsd_nil) (fun _ => (pd_tup (pda_cons (pdv 2) (pda_cons (pd_get1 hu (pd_ix hu (pd_ix hu (pdv 0) pd_str) (pdv 2)) (pdv 1) ⟨rfl, rfl, rfl, rfl⟩) pda_nil)))))) pda_nil))))
abbrev n__law_state_changed : List PySem.Str := [("own" : PySem.Str), ("change" : PySem.Str), ("word" : PySem.Str), ("table" : PySem.Str), ("key" : PySem.Str), ("later" : PySem.Str)]
theorem sc__law_state_changed : FnScope n__law_state_changed [("own" : PySem.Str), ("change" : PySem.Str)] (defScope Hd.s__law_state_changed) := ⟨rfl, rfl, rfl, by decide +kernel, rfl, by decide +kernel, by decide +kernel⟩
def b__law_state_changed (sd__law_state_copy : SpD) (sd__law_state_are_values : SpD) : DS := (dSeq (dAsg (dSlA (dVar 1) dNoPart (dPart (dC (.int 3)))) (gdTup 3 (gdCons (gdName 2) (gdCons (gdName 3) (gdCons (gdName 4) gdNil))))) (dSeq (dIfS (dB (dOp (rInD true) (dVar 3) (dOp rIxD (dVar 0) (dC (.str ("columns" : PySem.Str)))))) (dRet (dTup (dCons (dC .non) (dCons (dTup (dCons (dC (.str ("table" : PySem.Str))) (dCons (dVar 3) dNil))) dNil)))) dNext) (dSeq (dAsg (dCall sd__law_state_copy (dCons (dVar 0) dNil)) (gdName 5)) (dSeq (dIfS (dB (dOp rEqD (dVar 2) (dC (.str ("drop" : PySem.Str))))) (dSeq (dIfS (dB (dOp (rInD true) (dVar 4) (dOp rIxD (dOp rIxD (dVar 5) (dC (.str ("rows" : PySem.Str)))) (dVar 3)))) (dRet (dTup (dCons (dC .non) (dCons (dTup (dCons (dC (.str ("row" : PySem.Str))) (dCons (dTup (dCons (dVar 3) (dCons (dVar 4) dNil))) dNil))) dNil)))) dNext) (dSeq (dDrop (dPop1 (dOp rIxD (dOp rIxD (dVar 5) (dC (.str ("rows" : PySem.Str)))) (dVar 3)) (dVar 4))) (dRet (dLkE (dTup (dCons (dVar 5) (dCons (dC .non) dNil))))))) dNext) (dSeq (dIfS (dNot (dTru (dCall sd__law_state_are_values (dCons (dOp rIxD (dOp rIxD (dVar 0) (dC (.str ("columns" : PySem.Str)))) (dVar 3)) (dCons (dOp rIxD (dVar 1) (dC (.int 3))) dNil))))) (dRet (dTup (dCons (dC .non) (dCons (dTup (dCons (dC (.str ("values" : PySem.Str))) (dCons (dOp rIxD (dVar 1) (dC (.int 3))) dNil))) dNil)))) dNext) (dSeq (dPut (dOp rIxD (dOp rIxD (dVar 5) (dC (.str ("rows" : PySem.Str)))) (dVar 3)) (dVar 4) (dOp rIxD (dVar 1) (dC (.int 3)))) (dRet (dLkE (dTup (dCons (dVar 5) (dCons (dC .non) dNil)))))))))))
theorem w__law_state_changed {P : Program} {w : World} {K : PySem.W.Frag} {mg : PySem.Str → Option Value} {base : Heap} {k : Nat} {sd__law_state_copy sd__law_state_are_values : SpD} (ev : Ev K mg) (h__law_state_copy : Has P w K mg base k "_law_state_copy" Hd.s__law_state_copy [("own" : PySem.Str)] sd__law_state_copy) (h__law_state_are_values : Has P w K mg base k "_law_state_are_values" Hd.s__law_state_are_values [("columns" : PySem.Str), ("value" : PySem.Str)] sd__law_state_are_values) {f : Addr} (cdv : Value) (A : Around) (outer : List Env) (s : Shared) (H : Hp) (E : XK) (hr : Room k (A.deeper (envOfC "_law_state_changed" (defScope Hd.s__law_state_changed) s.heap.objs.size f cdv))) : PSsd (cxOf CX0 P w K mg base n__law_state_changed "_law_state_changed" (defScope Hd.s__law_state_changed) f cdv A outer s H E).nox (defBody Hd.s__law_state_changed) (b__law_state_changed sd__law_state_copy sd__law_state_are_values) :=
  have hu : A.units + 3 + 64 < cLine := hr.units
  (psd_cons (psd_asg (pd_slA (pdv 1) pdo_none (pdo_some pd_int)) (pgd_tup rfl (pgsd_cons (pgd_name (i := 2) sc__law_state_changed.nd rfl (.inl rfl)) (pgsd_cons (pgd_name (i := 3) sc__law_state_changed.nd rfl (.inl rfl)) (pgsd_cons (pgd_name (i := 4) sc__law_state_changed.nd rfl (.inl rfl)) pgsd_nil))))) (psd_cons (psd_if (pt_nin hu (pdv 3) (pd_ix hu (pdv 0) pd_str)) (psd_one (psd_ret (pd_tup (pda_cons pd_non (pda_cons (pd_tup (pda_cons pd_str (pda_cons (pdv 3) pda_nil))) pda_nil))))) psd_nil) (psd_cons (psd_set (i := 5) sc__law_state_changed.nd rfl (by first | exact .inl rfl | exact .inr rfl) (pd_call h__law_state_copy hr (pda_cons (pdv 0) pda_nil))) (psd_cons (psd_if (pt_eq hu (pdv 2) pd_str) (psd_cons (psd_if (pt_nin hu (pdv 4) (pd_ix hu (pd_ix hu (pdv 5) pd_str) (pdv 3))) (psd_one (psd_ret (pd_tup (pda_cons pd_non (pda_cons (pd_tup (pda_cons pd_str (pda_cons (pd_tup (pda_cons (pdv 3) (pda_cons (pdv 4) pda_nil))) pda_nil))) pda_nil))))) psd_nil) (psd_cons (psd_expr (pd_pop1 (pd_ix hu (pd_ix hu (pdv 5) pd_str) (pdv 3)) (pdv 4) ⟨rfl, rfl, rfl, rfl⟩)) (psd_one (psd_ret (pd_lk (pd_tup (pda_cons (pdv 5) (pda_cons pd_non pda_nil)))))))) psd_nil) (psd_cons (psd_if (pt_notD (pt_tru (pd_call h__law_state_are_values hr (pda_cons (pd_ix hu (pd_ix hu (pdv 0) pd_str) (pdv 3)) (pda_cons (pd_ix hu (pdv 1) pd_int) pda_nil))))) (psd_one (psd_ret (pd_tup (pda_cons pd_non (pda_cons (pd_tup (pda_cons pd_str (pda_cons (pd_ix hu (pdv 1) pd_int) pda_nil))) pda_nil))))) psd_nil) (psd_cons (psd_put hu (pd_ix hu (pd_ix hu (pdv 5) pd_str) (pdv 3)) (pdv 4) (pd_ix hu (pdv 1) pd_int)) (psd_one (psd_ret (pd_lk (pd_tup (pda_cons (pdv 5) (pda_cons pd_non pda_nil))))))))))))
abbrev n__law_state_dealt : List PySem.Str := [("own" : PySem.Str), ("changes" : PySem.Str), ("change" : PySem.Str), ("due" : PySem.Str)]
theorem sc__law_state_dealt : FnScope n__law_state_dealt [("own" : PySem.Str), ("changes" : PySem.Str)] (defScope Hd.s__law_state_dealt) := ⟨rfl, rfl, rfl, by decide +kernel, rfl, by decide +kernel, by decide +kernel⟩
def b__law_state_dealt (sd__law_state_changed : SpD) : DS := (dSeq (dFor (dIt (dVar 1)) (gdName 2) (dSeq (dAsg (dCall sd__law_state_changed (dCons (dVar 0) (dCons (dVar 2) dNil))) (gdTup 2 (gdCons (gdName 0) (gdCons (gdName 3) gdNil)))) (dIfS (dB (dNotN (dVar 3))) (dRet (dTup (dCons (dC .non) (dCons (dVar 3) dNil)))) dNext))) (dRet (dTup (dCons (dVar 0) (dCons (dC .non) dNil)))))
theorem w__law_state_dealt {P : Program} {w : World} {K : PySem.W.Frag} {mg : PySem.Str → Option Value} {base : Heap} {k : Nat} {sd__law_state_changed : SpD} (ev : Ev K mg) (h__law_state_changed : Has P w K mg base k "_law_state_changed" Hd.s__law_state_changed [("own" : PySem.Str), ("change" : PySem.Str)] sd__law_state_changed) {f : Addr} (cdv : Value) (A : Around) (outer : List Env) (s : Shared) (H : Hp) (E : XK) (hr : Room k (A.deeper (envOfC "_law_state_dealt" (defScope Hd.s__law_state_dealt) s.heap.objs.size f cdv))) : PSsd (cxOf CX0 P w K mg base n__law_state_dealt "_law_state_dealt" (defScope Hd.s__law_state_dealt) f cdv A outer s H E).nox (defBody Hd.s__law_state_dealt) (b__law_state_dealt sd__law_state_changed) :=
  have hu : A.units + 3 + 64 < cLine := hr.units
  (psd_cons (psd_for PassesOwn.never rfl (pid_any (pdv 1)) (pgd_name (i := 2) sc__law_state_dealt.nd rfl (.inl rfl)) (psd_cons (psd_asg (pd_call h__law_state_changed hr (pda_cons (pdv 0) (pda_cons (pdv 2) pda_nil))) (pgd_tup rfl (pgsd_cons (pgd_name (i := 0) sc__law_state_dealt.nd rfl (.inl rfl)) (pgsd_cons (pgd_name (i := 3) sc__law_state_dealt.nd rfl (.inl rfl)) pgsd_nil)))) (psd_one (psd_if (pt_notN (pdv 3)) (psd_one (psd_ret (pd_tup (pda_cons pd_non (pda_cons (pdv 3) pda_nil))))) psd_nil)))) (psd_one (psd_ret (pd_tup (pda_cons (pdv 0) (pda_cons pd_non pda_nil))))))
abbrev n__law_state_keys : List PySem.Str := [("own" : PySem.Str), ("found" : PySem.Str), ("rows" : PySem.Str)]
theorem sc__law_state_keys : FnScope n__law_state_keys [("own" : PySem.Str)] (defScope Hd.s__law_state_keys) := ⟨rfl, rfl, rfl, by decide +kernel, rfl, by decide +kernel, by decide +kernel⟩
def b__law_state_keys : DS := (dSeq (dAsg (dNew (dLst dNil)) (gdName 1)) (dSeq (dFor (dValues (dOp rIxD (dVar 0) (dC (.str ("rows" : PySem.Str))))) (gdName 2) (dDrop (dMtL rExtD (dVar 1) (dCons (dNew (dCa rListA (dCons (dVar 2) dNil))) dNil)))) (dRet (dFz (dSortSet (dVar 1))))))
theorem w__law_state_keys {P : Program} {w : World} {K : PySem.W.Frag} {mg : PySem.Str → Option Value} {base : Heap} {k : Nat} (ev : Ev K mg) {f : Addr} (cdv : Value) (A : Around) (outer : List Env) (s : Shared) (H : Hp) (E : XK) (hr : Room k (A.deeper (envOfC "_law_state_keys" (defScope Hd.s__law_state_keys) s.heap.objs.size f cdv))) : PSsd (cxOf CX0 P w K mg base n__law_state_keys "_law_state_keys" (defScope Hd.s__law_state_keys) f cdv A outer s H E).nox (defBody Hd.s__law_state_keys) b__law_state_keys :=
  have hu : A.units + 3 + 64 < cLine := hr.units
  (psd_cons (psd_set (i := 1) sc__law_state_keys.nd rfl (by first | exact .inl rfl | exact .inr rfl) (pd_new (pl_lst pda_nil))) (psd_cons (psd_for PassesOwn.never rfl (pid_values (pd_ix hu (pdv 0) pd_str)) (pgd_name (i := 2) sc__law_state_keys.nd rfl (.inl rfl)) (psd_one (psd_expr (pd_extend (pdv 1) (pda_cons (pd_new (pl_callTy (cr_listA rfl) ab_listA ev.m_list (pda_cons (pdv 2) pda_nil))) pda_nil))))) (psd_one (psd_ret (pd_fz (pl_sortSet rfl ev.m_sorted ev.m_set (pdv 1)))))))
abbrev n__law_state_value_drawn : List PySem.Str := [("pot" : PySem.Str), ("kind" : PySem.Str)]
theorem sc__law_state_value_drawn : FnScope n__law_state_value_drawn [("pot" : PySem.Str), ("kind" : PySem.Str)] (defScope Hd.s__law_state_value_drawn) := ⟨rfl, rfl, rfl, by decide +kernel, rfl, by decide +kernel, by decide +kernel⟩
def b__law_state_value_drawn (sd__law_take : SpD) (sd__law_of : SpD) : DS := (dSeq (dIfS (dB (dOp rEqD (dCall sd__law_take (dCons (dVar 0) (dCons (dC (.int 7)) dNil))) (dC (.int 0)))) (dRet (dC .non)) dNext) (dSeq (dIfS (dB (dOp rEqD (dVar 1) (dC (.str ("int" : PySem.Str))))) (dRet (dCall sd__law_of (dCons (dVar 0) (dCons (dFz (dLst (dCons (dC (.int 0)) (dCons (dC (.int 1)) (dCons (dC (.int 2)) (dCons (dNeg (dC (.int 1))) (dCons (dC (.int 5)) (dCons (dC (.int 40)) (dCons (dNeg (dC (.int 12345678901))) (dCons (dCall sd__law_take (dCons (dVar 0) (dCons (dC (.int 99)) dNil))) dNil)))))))))) dNil)))) dNext) (dRet (dCall sd__law_of (dCons (dVar 0) (dCons (dFz (dLst (dCons (dC (.str ("" : PySem.Str))) (dCons (dC (.str ("a" : PySem.Str))) (dCons (dC (.str ("b" : PySem.Str))) (dCons (dC (.str ("x-y" : PySem.Str))) (dCons (dC (.str ("p-q-r" : PySem.Str))) (dCons (dC (.str ("7" : PySem.Str))) (dCons (dC (.str ("007" : PySem.Str))) (dCons (dC (.str ("-3" : PySem.Str))) (dCons (dC (.str ("none" : PySem.Str))) (dCons (dC (.str ("'" : PySem.Str))) (dCons (dC (.str ("-" : PySem.Str))) (dCons (dC (.str ("longer-text" : PySem.Str))) dNil)))))))))))))) dNil))))))
theorem w__law_state_value_drawn {P : Program} {w : World} {K : PySem.W.Frag} {mg : PySem.Str → Option Value} {base : Heap} {k : Nat} {sd__law_take sd__law_of : SpD} (ev : Ev K mg) (h__law_take : Has P w K mg base k "_law_take" Hd.s__law_take [("pot" : PySem.Str), ("upto" : PySem.Str)] sd__law_take) (h__law_of : Has P w K mg base k "_law_of" Hd.s__law_of [("pot" : PySem.Str), ("some" : PySem.Str)] sd__law_of) {f : Addr} (cdv : Value) (A : Around) (outer : List Env) (s : Shared) (H : Hp) (E : XK) (hr : Room k (A.deeper (envOfC "_law_state_value_drawn" (defScope Hd.s__law_state_value_drawn) s.heap.objs.size f cdv))) : PSsd (cxOf CX0 P w K mg base n__law_state_value_drawn "_law_state_value_drawn" (defScope Hd.s__law_state_value_drawn) f cdv A outer s H E).nox (defBody Hd.s__law_state_value_drawn) (b__law_state_value_drawn sd__law_take sd__law_of) :=
  have hu : A.units + 3 + 64 < cLine := hr.units
  (psd_cons (psd_if (pt_eq hu (pd_call h__law_take hr (pda_cons (pdv 0) (pda_cons pd_int pda_nil))) pd_int) (psd_one (psd_ret pd_non)) psd_nil) (psd_cons (psd_if (pt_eq hu (pdv 1) pd_str) (psd_one (psd_ret (pd_call h__law_of hr (pda_cons (pdv 0) (pda_cons (pd_fz (pl_lst (pda_cons pd_int (pda_cons pd_int (pda_cons pd_int (pda_cons (pd_neg pd_int) (pda_cons pd_int (pda_cons pd_int (pda_cons (pd_neg pd_int) (pda_cons (pd_call h__law_take hr (pda_cons (pdv 0) (pda_cons pd_int pda_nil))) pda_nil)))))))))) pda_nil))))) psd_nil) (psd_one (psd_ret (pd_call h__law_of hr (pda_cons (pdv 0) (pda_cons (pd_fz (pl_lst (pda_cons pd_str (pda_cons pd_str (pda_cons pd_str (pda_cons pd_str (pda_cons pd_str (pda_cons pd_str (pda_cons pd_str (pda_cons pd_str (pda_cons pd_str (pda_cons pd_str (pda_cons pd_str (pda_cons pd_str pda_nil)))))))))))))) pda_nil)))))))
abbrev n__law_state_values_drawn : List PySem.Str := [("pot" : PySem.Str), ("columns" : PySem.Str), ("name" : PySem.Str), ("kind" : PySem.Str)]
theorem sc__law_state_values_drawn : FnScope n__law_state_values_drawn [("pot" : PySem.Str), ("columns" : PySem.Str)] (defScope Hd.s__law_state_values_drawn) := ⟨rfl, rfl, rfl, by decide +kernel, rfl, by decide +kernel, by decide +kernel⟩
def b__law_state_values_drawn (sd__law_state_value_drawn : SpD) : DS := (dRet (dCa rTupleD (dCons (dFz (dLc (dIt (dVar 1)) (gdTup 2 (gdCons (gdName 2) (gdCons (gdName 3) gdNil))) dYes (dCall sd__law_state_value_drawn (dCons (dVar 0) (dCons (dVar 3) dNil))) (([(("name" : PySem.Str), 2), (("kind" : PySem.Str), 3)] : List (PySem.Str × Nat)).map (·.2)))) dNil)))
theorem w__law_state_values_drawn {P : Program} {w : World} {K : PySem.W.Frag} {mg : PySem.Str → Option Value} {base : Heap} {k : Nat} {sd__law_state_value_drawn : SpD} (ev : Ev K mg) (h__law_state_value_drawn : Has P w K mg base k "_law_state_value_drawn" Hd.s__law_state_value_drawn [("pot" : PySem.Str), ("kind" : PySem.Str)] sd__law_state_value_drawn) {f : Addr} (cdv : Value) (A : Around) (outer : List Env) (s : Shared) (H : Hp) (E : XK) (hr : Room k (A.deeper (envOfC "_law_state_values_drawn" (defScope Hd.s__law_state_values_drawn) s.heap.objs.size f cdv))) : PSsd (cxOf CX0 P w K mg base n__law_state_values_drawn "_law_state_values_drawn" (defScope Hd.s__law_state_values_drawn) f cdv A outer s H E).nox (defBody Hd.s__law_state_values_drawn) (b__law_state_values_drawn sd__law_state_value_drawn) :=
  have hu : A.units + 3 + 64 < cLine := hr.units
  (psd_one (psd_ret (pd_callTy call_tuple_of ab_tuple ev.m_tuple (pda_cons (pd_fz (pl_lc (own := [(("name" : PySem.Str), 2), (("kind" : PySem.Str), 3)]) rfl sc__law_state_values_drawn.nd (pid_any (pdv 1)) (blkOk_by (N := n__law_state_values_drawn) (sc := defScope Hd.s__law_state_values_drawn) (by decide +kernel)) (fun _ => (pgw_tup rfl (pgsw_cons (pgw_name (i := 2) (by decide) sc__law_state_values_drawn.nd rfl (by first | exact .inl rfl | exact .inr rfl)) (pgsw_cons (pgw_name (i := 3) (by decide) sc__law_state_values_drawn.nd rfl (by first | exact .inl rfl | exact .inr rfl)) pgsw_nil)))) (fun _ => ptsd_nil) (fun _ => (pd_call h__law_state_value_drawn hr (pda_cons (pdv 0) (pda_cons (pdv 3) pda_nil)))))) pda_nil))))
abbrev n__law_state_columns_drawn : List PySem.Str := [("pot" : PySem.Str), ("names" : PySem.Str), ("name" : PySem.Str)]
theorem sc__law_state_columns_drawn : FnScope n__law_state_columns_drawn [("pot" : PySem.Str)] (defScope Hd.s__law_state_columns_drawn) := ⟨rfl, rfl, rfl, by decide +kernel, rfl, by decide +kernel, by decide +kernel⟩
def b__law_state_columns_drawn (sd__law_some : SpD) (sd__law_take : SpD) (sd__law_of : SpD) : DS := (dSeq (dAsg (dCall sd__law_some (dCons (dVar 0) (dCons (dFz (dLst (dCons (dC (.str ("a" : PySem.Str))) (dCons (dC (.str ("b" : PySem.Str))) (dCons (dC (.str ("c" : PySem.Str))) (dCons (dC (.str ("d" : PySem.Str))) (dCons (dC (.str ("name" : PySem.Str))) dNil))))))) (dCons (dOp rAddD (dC (.int 1)) (dCall sd__law_take (dCons (dVar 0) (dCons (dC (.int 3)) dNil)))) dNil)))) (gdName 1)) (dRet (dCa rTupleD (dCons (dFz (dLc (dIt (dVar 1)) (gdName 2) dYes (dTup (dCons (dVar 2) (dCons (dCall sd__law_of (dCons (dVar 0) (dCons (dFz (dLst (dCons (dC (.str ("int" : PySem.Str))) (dCons (dC (.str ("text" : PySem.Str))) dNil)))) dNil))) dNil))) (([(("name" : PySem.Str), 2)] : List (PySem.Str × Nat)).map (·.2)))) dNil))))
theorem w__law_state_columns_drawn {P : Program} {w : World} {K : PySem.W.Frag} {mg : PySem.Str → Option Value} {base : Heap} {k : Nat} {sd__law_some sd__law_take sd__law_of : SpD} (ev : Ev K mg) (h__law_some : Has P w K mg base k "_law_some" Hd.s__law_some [("pot" : PySem.Str), ("pool" : PySem.Str), ("many" : PySem.Str)] sd__law_some) (h__law_take : Has P w K mg base k "_law_take" Hd.s__law_take [("pot" : PySem.Str), ("upto" : PySem.Str)] sd__law_take) (h__law_of : Has P w K mg base k "_law_of" Hd.s__law_of [("pot" : PySem.Str), ("some" : PySem.Str)] sd__law_of) {f : Addr} (cdv : Value) (A : Around) (outer : List Env) (s : Shared) (H : Hp) (E : XK) (hr : Room k (A.deeper (envOfC "_law_state_columns_drawn" (defScope Hd.s__law_state_columns_drawn) s.heap.objs.size f cdv))) : PSsd (cxOf CX0 P w K mg base n__law_state_columns_drawn "_law_state_columns_drawn" (defScope Hd.s__law_state_columns_drawn) f cdv A outer s H E).nox (defBody Hd.s__law_state_columns_drawn) (b__law_state_columns_drawn sd__law_some sd__law_take sd__law_of) :=
  have hu : A.units + 3 + 64 < cLine := hr.units
  (psd_cons (psd_set (i := 1) sc__law_state_columns_drawn.nd rfl (by first | exact .inl rfl | exact .inr rfl) (pd_call h__law_some hr (pda_cons (pdv 0) (pda_cons (pd_fz (pl_lst (pda_cons pd_str (pda_cons pd_str (pda_cons pd_str (pda_cons pd_str (pda_cons pd_str pda_nil))))))) (pda_cons (pd_add pd_int (pd_call h__law_take hr (pda_cons (pdv 0) (pda_cons pd_int pda_nil)))) pda_nil))))) (psd_one (psd_ret (pd_callTy call_tuple_of ab_tuple ev.m_tuple (pda_cons (pd_fz (pl_lc (own := [(("name" : PySem.Str), 2)]) rfl sc__law_state_columns_drawn.nd (pid_any (pdv 1)) (blkOk_by (N := n__law_state_columns_drawn) (sc := defScope Hd.s__law_state_columns_drawn) (by decide +kernel)) (fun _ => (pgw_name (i := 2) (by decide) sc__law_state_columns_drawn.nd rfl (by first | exact .inl rfl | exact .inr rfl))) (fun _ => ptsd_nil) (fun _ => (pd_tup (pda_cons (pdv 2) (pda_cons (pd_call h__law_of hr (pda_cons (pdv 0) (pda_cons (pd_fz (pl_lst (pda_cons pd_str (pda_cons pd_str pda_nil)))) pda_nil))) pda_nil)))))) pda_nil)))))
abbrev n__law_state_changes_drawn : List PySem.Str := [("pot" : PySem.Str), ("own" : PySem.Str), ("keys" : PySem.Str), ("most" : PySem.Str), ("found" : PySem.Str), ("lap" : PySem.Str), ("table" : PySem.Str), ("key" : PySem.Str), ("change" : PySem.Str)]
theorem sc__law_state_changes_drawn : FnScope n__law_state_changes_drawn [("pot" : PySem.Str), ("own" : PySem.Str), ("keys" : PySem.Str), ("most" : PySem.Str)] (defScope Hd.s__law_state_changes_drawn) := ⟨rfl, rfl, rfl, by decide +kernel, rfl, by decide +kernel, by decide +kernel⟩
def b__law_state_changes_drawn (sd__law_take : SpD) (sd__law_of : SpD) (sd__law_state_values_drawn : SpD) (sd__law_state_changed : SpD) : DS := (dSeq (dAsg (dNew (dLst dNil)) (gdName 4)) (dSeq (dFor (dRange1 (dCons (dCall sd__law_take (dCons (dVar 0) (dCons (dOp rAddD (dVar 3) (dC (.int 1))) dNil))) dNil)) (gdName 5) (dSeq (dIfS (dB (dOp rEqE (dOp rIxD (dVar 1) (dC (.str ("columns" : PySem.Str)))) (dFzK dEmptyK))) dBreak dNext) (dSeq (dPar 6 7 (dCons (dCall sd__law_of (dCons (dVar 0) (dCons (dFz (dCa rSorted (dCons (dOp rIxD (dVar 1) (dC (.str ("columns" : PySem.Str)))) dNil))) dNil))) (dCons (dCall sd__law_of (dCons (dVar 0) (dCons (dVar 2) dNil))) dNil))) (dSeq (dAsg (dTup (dCons (dC (.str ("put" : PySem.Str))) (dCons (dVar 6) (dCons (dVar 7) (dCons (dCall sd__law_state_values_drawn (dCons (dVar 0) (dCons (dOp rIxD (dOp rIxD (dVar 1) (dC (.str ("columns" : PySem.Str)))) (dVar 6)) dNil))) dNil))))) (gdName 8)) (dSeq (dIfS (dAnd (dB (dOp (rInD false) (dVar 7) (dOp rIxD (dOp rIxD (dVar 1) (dC (.str ("rows" : PySem.Str)))) (dVar 6)))) (dB (dOp rEqD (dCall sd__law_take (dCons (dVar 0) (dCons (dC (.int 3)) dNil))) (dC (.int 0))))) (dAsg (dTup (dCons (dC (.str ("drop" : PySem.Str))) (dCons (dVar 6) (dCons (dVar 7) dNil)))) (gdName 8)) dNext) (dSeq (dDrop (dMtL rAppD (dVar 4) (dCons (dVar 8) dNil))) (dAsg (dOp rIxD (dCall sd__law_state_changed (dCons (dVar 1) (dCons (dVar 8) dNil))) (dC (.int 0))) (gdName 1)))))))) (dRet (dCa rTupleD (dCons (dVar 4) dNil)))))
theorem w__law_state_changes_drawn {P : Program} {w : World} {K : PySem.W.Frag} {mg : PySem.Str → Option Value} {base : Heap} {k : Nat} {sd__law_take sd__law_of sd__law_state_values_drawn sd__law_state_changed : SpD} (ev : Ev K mg) (h__law_take : Has P w K mg base k "_law_take" Hd.s__law_take [("pot" : PySem.Str), ("upto" : PySem.Str)] sd__law_take) (h__law_of : Has P w K mg base k "_law_of" Hd.s__law_of [("pot" : PySem.Str), ("some" : PySem.Str)] sd__law_of) (h__law_state_values_drawn : Has P w K mg base k "_law_state_values_drawn" Hd.s__law_state_values_drawn [("pot" : PySem.Str), ("columns" : PySem.Str)] sd__law_state_values_drawn) (h__law_state_changed : Has P w K mg base k "_law_state_changed" Hd.s__law_state_changed [("own" : PySem.Str), ("change" : PySem.Str)] sd__law_state_changed) {f : Addr} (cdv : Value) (A : Around) (outer : List Env) (s : Shared) (H : Hp) (E : XK) (hr : Room k (A.deeper (envOfC "_law_state_changes_drawn" (defScope Hd.s__law_state_changes_drawn) s.heap.objs.size f cdv))) : PSsd (cxOf CX0 P w K mg base n__law_state_changes_drawn "_law_state_changes_drawn" (defScope Hd.s__law_state_changes_drawn) f cdv A outer s H E).nox (defBody Hd.s__law_state_changes_drawn) (b__law_state_changes_drawn sd__law_take sd__law_of sd__law_state_values_drawn sd__law_state_changed) :=
  have hu : A.units + 3 + 64 < cLine := hr.units
  (psd_cons (psd_set (i := 4) sc__law_state_changes_drawn.nd rfl (by first | exact .inl rfl | exact .inr rfl) (pd_new (pl_lst pda_nil))) (psd_cons (psd_for PassesOwn.never rfl (pid_range1 ev.m_range (pda_cons (pd_call h__law_take hr (pda_cons (pdv 0) (pda_cons (pd_add (pdv 3) pd_int) pda_nil))) pda_nil)) (pgd_name (i := 5) sc__law_state_changes_drawn.nd rfl (.inl rfl)) (psd_cons (psd_if (pt_eqE hu (pd_ix hu (pdv 1) pd_str) (pd_fzK pk_empty)) (psd_one psd_break) psd_nil) (psd_cons (psd_par (i := 6) (j := 7) rfl sc__law_state_changes_drawn.nd rfl rfl (by decide) rfl rfl (pda_cons (pd_call h__law_of hr (pda_cons (pdv 0) (pda_cons (pd_fz (pl_callB (cr_sortedV rfl) ab_sorted ev.m_sorted (pda_cons (pd_ix hu (pdv 1) pd_str) pda_nil))) pda_nil))) (pda_cons (pd_call h__law_of hr (pda_cons (pdv 0) (pda_cons (pdv 2) pda_nil))) pda_nil)) rfl) (psd_cons (psd_set (i := 8) sc__law_state_changes_drawn.nd rfl (by first | exact .inl rfl | exact .inr rfl) (pd_tup (pda_cons pd_str (pda_cons (pdv 6) (pda_cons (pdv 7) (pda_cons (pd_call h__law_state_values_drawn hr (pda_cons (pdv 0) (pda_cons (pd_ix hu (pd_ix hu (pdv 1) pd_str) (pdv 6)) pda_nil))) pda_nil)))))) (psd_cons (psd_if (pt_w (pw_andD (pt_in hu (pdv 7) (pd_ix hu (pd_ix hu (pdv 1) pd_str) (pdv 6))) (pw_one (pt_eq hu (pd_call h__law_take hr (pda_cons (pdv 0) (pda_cons pd_int pda_nil))) pd_int)))) (psd_one (psd_set (i := 8) sc__law_state_changes_drawn.nd rfl (by first | exact .inl rfl | exact .inr rfl) (pd_tup (pda_cons pd_str (pda_cons (pdv 6) (pda_cons (pdv 7) pda_nil)))))) psd_nil) (psd_cons (psd_expr (pd_append (pdv 4) (pda_cons (pdv 8) pda_nil))) (psd_one (psd_set (i := 1) sc__law_state_changes_drawn.nd rfl (by first | exact .inl rfl | exact .inr rfl) (pd_ix hu (pd_call h__law_state_changed hr (pda_cons (pdv 1) (pda_cons (pdv 8) pda_nil))) pd_int))))))))) (psd_one (psd_ret (pd_callTy call_tuple_of ab_tuple ev.m_tuple (pda_cons (pdv 4) pda_nil))))))
abbrev n__law_same : List PySem.Str := [("one" : PySem.Str), ("other" : PySem.Str), ("mine" : PySem.Str), ("its" : PySem.Str)]
theorem sc__law_same : FnScope n__law_same [("one" : PySem.Str), ("other" : PySem.Str)] (defScope Hd.s__law_same) := ⟨rfl, rfl, rfl, by decide +kernel, rfl, by decide +kernel, by decide +kernel⟩
def b__law_same (sd__law_same : SpD) : DS := (dSeq (dIfS (dOr (dTru (dCa rIsiD (dCons (dVar 0) (dCons (dC (.ty "tuple")) dNil)))) (dTru (dCa rIsiD (dCons (dVar 1) (dCons (dC (.ty "tuple")) dNil))))) (dSeq (dIfS (dOr (dNot (dTru (dCa rIsiD (dCons (dVar 0) (dCons (dC (.ty "tuple")) dNil))))) (dOr (dNot (dTru (dCa rIsiD (dCons (dVar 1) (dCons (dC (.ty "tuple")) dNil))))) (dB (dOp rNeD (dCa rLenD (dCons (dVar 0) dNil)) (dCa rLenD (dCons (dVar 1) dNil)))))) (dRet (dC (.bl false))) dNext) (dRet (dCa rAllD (dCons (dFz (dLc (dZipX (dCons (dVar 0) (dCons (dVar 1) dNil))) (gdTup 2 (gdCons (gdName 2) (gdCons (gdName 3) gdNil))) dYes (dCall sd__law_same (dCons (dVar 2) (dCons (dVar 3) dNil))) (([(("mine" : PySem.Str), 2), (("its" : PySem.Str), 3)] : List (PySem.Str × Nat)).map (·.2)))) dNil)))) dNext) (dRet (dAndV (dOp rEqD (dCa rIsiD (dCons (dVar 0) (dCons (dC (.ty "bool")) dNil))) (dCa rIsiD (dCons (dVar 1) (dCons (dC (.ty "bool")) dNil)))) (dOp rEqD (dVar 0) (dVar 1)))))
theorem w__law_same {P : Program} {w : World} {K : PySem.W.Frag} {mg : PySem.Str → Option Value} {base : Heap} {k : Nat} {sd__law_same : SpD} (ev : Ev K mg) (h_self : Has P w K mg base k "_law_same" Hd.s__law_same [("one" : PySem.Str), ("other" : PySem.Str)] sd__law_same) {f : Addr} (cdv : Value) (A : Around) (outer : List Env) (s : Shared) (H : Hp) (E : XK) (hr : Room k (A.deeper (envOfC "_law_same" (defScope Hd.s__law_same) s.heap.objs.size f cdv))) : PSsd (cxOf CX0 P w K mg base n__law_same "_law_same" (defScope Hd.s__law_same) f cdv A outer s H E).nox (defBody Hd.s__law_same) (b__law_same sd__law_same) :=
  have hu : A.units + 3 + 64 < cLine := hr.units
  (psd_cons (psd_if (pt_w (pw_orD (pt_tru (pd_callB call_isi ab_isi ev.m_isinstance (pda_cons (pdv 0) (pda_cons (pd_ty rfl ev.m_tuple) pda_nil)))) (pw_oneO (pt_tru (pd_callB call_isi ab_isi ev.m_isinstance (pda_cons (pdv 1) (pda_cons (pd_ty rfl ev.m_tuple) pda_nil))))))) (psd_cons (psd_if (pt_w (pw_orD (pt_notD (pt_tru (pd_callB call_isi ab_isi ev.m_isinstance (pda_cons (pdv 0) (pda_cons (pd_ty rfl ev.m_tuple) pda_nil))))) (pw_orD (pt_notD (pt_tru (pd_callB call_isi ab_isi ev.m_isinstance (pda_cons (pdv 1) (pda_cons (pd_ty rfl ev.m_tuple) pda_nil))))) (pw_oneO (pt_ne hu (pd_callB cr_lenA ab_len ev.m_len (pda_cons (pdv 0) pda_nil)) (pd_callB cr_lenA ab_len ev.m_len (pda_cons (pdv 1) pda_nil))))))) (psd_one (psd_ret pd_bl)) psd_nil) (psd_one (psd_ret (pd_callB (cr_all rfl) ab_all ev.m_all (pda_cons (pd_fz (pl_lc (own := [(("mine" : PySem.Str), 2), (("its" : PySem.Str), 3)]) rfl sc__law_same.nd (pid_zipX ev.m_zip (pda_cons (pdv 0) (pda_cons (pdv 1) pda_nil))) (blkOk_by (N := n__law_same) (sc := defScope Hd.s__law_same) (by decide +kernel)) (fun _ => (pgw_tup rfl (pgsw_cons (pgw_name (i := 2) (by decide) sc__law_same.nd rfl (by first | exact .inl rfl | exact .inr rfl)) (pgsw_cons (pgw_name (i := 3) (by decide) sc__law_same.nd rfl (by first | exact .inl rfl | exact .inr rfl)) pgsw_nil)))) (fun _ => ptsd_nil) (fun _ => (pd_call h_self hr (pda_cons (pdv 2) (pda_cons (pdv 3) pda_nil)))))) pda_nil))))) psd_nil) (psd_one (psd_ret (pd_and (pd_eq hu (pd_callB call_isi ab_isi ev.m_isinstance (pda_cons (pdv 0) (pda_cons (pd_ty rfl ev.m_bool) pda_nil))) (pd_callB call_isi ab_isi ev.m_isinstance (pda_cons (pdv 1) (pda_cons (pd_ty rfl ev.m_bool) pda_nil)))) (pd_one (pd_eq hu (pdv 0) (pdv 1)))))))
abbrev n__law_rows_drawn : List PySem.Str := [("pot" : PySem.Str), ("own" : PySem.Str), ("found" : PySem.Str), ("table" : PySem.Str), ("columns" : PySem.Str), ("values" : PySem.Str)]
theorem sc__law_rows_drawn : FnScope n__law_rows_drawn [("pot" : PySem.Str), ("own" : PySem.Str)] (defScope Hd.s__law_rows_drawn) := ⟨rfl, rfl, rfl, by decide +kernel, rfl, by decide +kernel, by decide +kernel⟩
def b__law_rows_drawn (sd__law_state_schema : SpD) (sd__law_state_values_drawn : SpD) (sd__law_take : SpD) : DS := (dSeq (dAsg (dNew (dLst dNil)) (gdName 2)) (dSeq (dFor (dIt (dCall sd__law_state_schema (dCons (dVar 1) dNil))) (gdTup 2 (gdCons (gdName 3) (gdCons (gdName 4) gdNil))) (dSeq (dAsg (dCall sd__law_state_values_drawn (dCons (dVar 0) (dCons (dVar 4) dNil))) (gdName 5)) (dDrop (dMtL rAppD (dVar 2) (dCons (dTup (dCons (dVar 3) (dCons (dIf (dB (dOp rEqD (dCall sd__law_take (dCons (dVar 0) (dCons (dC (.int 3)) dNil))) (dC (.int 0)))) (dC .non) (dVar 5)) dNil))) dNil))))) (dRet (dCa rTupleD (dCons (dVar 2) dNil)))))
theorem w__law_rows_drawn {P : Program} {w : World} {K : PySem.W.Frag} {mg : PySem.Str → Option Value} {base : Heap} {k : Nat} {sd__law_state_schema sd__law_state_values_drawn sd__law_take : SpD} (ev : Ev K mg) (h__law_state_schema : Has P w K mg base k "_law_state_schema" Hd.s__law_state_schema [("own" : PySem.Str)] sd__law_state_schema) (h__law_state_values_drawn : Has P w K mg base k "_law_state_values_drawn" Hd.s__law_state_values_drawn [("pot" : PySem.Str), ("columns" : PySem.Str)] sd__law_state_values_drawn) (h__law_take : Has P w K mg base k "_law_take" Hd.s__law_take [("pot" : PySem.Str), ("upto" : PySem.Str)] sd__law_take) {f : Addr} (cdv : Value) (A : Around) (outer : List Env) (s : Shared) (H : Hp) (E : XK) (hr : Room k (A.deeper (envOfC "_law_rows_drawn" (defScope Hd.s__law_rows_drawn) s.heap.objs.size f cdv))) : PSsd (cxOf CX0 P w K mg base n__law_rows_drawn "_law_rows_drawn" (defScope Hd.s__law_rows_drawn) f cdv A outer s H E).nox (defBody Hd.s__law_rows_drawn) (b__law_rows_drawn sd__law_state_schema sd__law_state_values_drawn sd__law_take) :=
  have hu : A.units + 3 + 64 < cLine := hr.units
  (psd_cons (psd_set (i := 2) sc__law_rows_drawn.nd rfl (by first | exact .inl rfl | exact .inr rfl) (pd_new (pl_lst pda_nil))) (psd_cons (psd_for PassesOwn.never rfl (pid_any (pd_call h__law_state_schema hr (pda_cons (pdv 1) pda_nil))) (pgd_tup rfl (pgsd_cons (pgd_name (i := 3) sc__law_rows_drawn.nd rfl (.inl rfl)) (pgsd_cons (pgd_name (i := 4) sc__law_rows_drawn.nd rfl (.inl rfl)) pgsd_nil))) (psd_cons (psd_set (i := 5) sc__law_rows_drawn.nd rfl (by first | exact .inl rfl | exact .inr rfl) (pd_call h__law_state_values_drawn hr (pda_cons (pdv 0) (pda_cons (pdv 4) pda_nil)))) (psd_one (psd_expr (pd_append (pdv 2) (pda_cons (pd_tup (pda_cons (pdv 3) (pda_cons (pd_ite (pt_eq hu (pd_call h__law_take hr (pda_cons (pdv 0) (pda_cons pd_int pda_nil))) pd_int) pd_non (pdv 5)) pda_nil))) pda_nil)))))) (psd_one (psd_ret (pd_callTy call_tuple_of ab_tuple ev.m_tuple (pda_cons (pdv 2) pda_nil))))))
abbrev n__law_laid : List PySem.Str := [("own" : PySem.Str), ("key" : PySem.Str), ("rows" : PySem.Str), ("later" : PySem.Str), ("table" : PySem.Str), ("values" : PySem.Str)]
theorem sc__law_laid : FnScope n__law_laid [("own" : PySem.Str), ("key" : PySem.Str), ("rows" : PySem.Str)] (defScope Hd.s__law_laid) := ⟨rfl, rfl, rfl, by decide +kernel, rfl, by decide +kernel, by decide +kernel⟩
def b__law_laid (sd__law_state_copy : SpD) : DS := (dSeq (dAsg (dCall sd__law_state_copy (dCons (dVar 0) dNil)) (gdName 3)) (dSeq (dFor (dIt (dVar 2)) (gdTup 2 (gdCons (gdName 4) (gdCons (gdName 5) gdNil))) (dSeq (dDrop (dPop2 (dOp rIxD (dOp rIxD (dVar 3) (dC (.str ("rows" : PySem.Str)))) (dVar 4)) (dVar 1) (dC .non))) (dIfS (dB (dNotN (dVar 5))) (dPut (dOp rIxD (dOp rIxD (dVar 3) (dC (.str ("rows" : PySem.Str)))) (dVar 4)) (dVar 1) (dVar 5)) dNext))) (dRet (dLkE (dVar 3)))))
theorem w__law_laid {P : Program} {w : World} {K : PySem.W.Frag} {mg : PySem.Str → Option Value} {base : Heap} {k : Nat} {sd__law_state_copy : SpD} (ev : Ev K mg) (h__law_state_copy : Has P w K mg base k "_law_state_copy" Hd.s__law_state_copy [("own" : PySem.Str)] sd__law_state_copy) {f : Addr} (cdv : Value) (A : Around) (outer : List Env) (s : Shared) (H : Hp) (E : XK) (hr : Room k (A.deeper (envOfC "_law_laid" (defScope Hd.s__law_laid) s.heap.objs.size f cdv))) : PSsd (cxOf CX0 P w K mg base n__law_laid "_law_laid" (defScope Hd.s__law_laid) f cdv A outer s H E).nox (defBody Hd.s__law_laid) (b__law_laid sd__law_state_copy) :=
  have hu : A.units + 3 + 64 < cLine := hr.units
  (psd_cons (psd_set (i := 3) sc__law_laid.nd rfl (by first | exact .inl rfl | exact .inr rfl) (pd_call h__law_state_copy hr (pda_cons (pdv 0) pda_nil))) (psd_cons (psd_for PassesOwn.never rfl (pid_any (pdv 2)) (pgd_tup rfl (pgsd_cons (pgd_name (i := 4) sc__law_laid.nd rfl (.inl rfl)) (pgsd_cons (pgd_name (i := 5) sc__law_laid.nd rfl (.inl rfl)) pgsd_nil))) (psd_cons (psd_expr (pd_pop2 (pd_ix hu (pd_ix hu (pdv 3) pd_str) (pdv 4)) (pdv 1) pd_non ⟨rfl, rfl, rfl, rfl⟩)) (psd_one (psd_if (pt_notN (pdv 5)) (psd_one (psd_put hu (pd_ix hu (pd_ix hu (pdv 3) pd_str) (pdv 4)) (pdv 1) (pdv 5))) psd_nil)))) (psd_one (psd_ret (pd_lk (pdv 3))))))
abbrev n__law_are_keys_right : List PySem.Str := [("own" : PySem.Str), ("schema" : PySem.Str), ("state" : PySem.Str), ("keys" : PySem.Str), ("key" : PySem.Str), ("table" : PySem.Str), ("columns" : PySem.Str)]
theorem sc__law_are_keys_right : FnScope n__law_are_keys_right [("own" : PySem.Str), ("schema" : PySem.Str), ("state" : PySem.Str), ("keys" : PySem.Str)] (defScope Hd.s__law_are_keys_right) := ⟨rfl, rfl, rfl, by decide +kernel, rfl, by decide +kernel, by decide +kernel⟩
def b__law_are_keys_right (sd__law_same : SpD) (sd__law_state_keys : SpD) (sd_keys_of : SpD) (sd__law_state_keyed : SpD) (sd_key_rows : SpD) (sd_row_in : SpD) : DS := (dSeq (dIfS (dNot (dTru (dCall sd__law_same (dCons (dCallK sd_keys_of [0] 0 1 dNil (dCons (dVar 2) dNil)) (dCons (dCa rTupleD (dCons (dCall sd__law_state_keys (dCons (dVar 0) dNil)) dNil)) dNil))))) (dRet (dC (.bl false))) dNext) (dSeq (dFor (dIt (dVar 3)) (gdName 4) (dSeq (dIfS (dNot (dTru (dCall sd__law_same (dCons (dCallK sd_key_rows [1, 0] 0 2 dNil (dCons (dVar 4) (dCons (dVar 2) dNil))) (dCons (dCall sd__law_state_keyed (dCons (dVar 0) (dCons (dVar 4) dNil))) dNil))))) (dRet (dC (.bl false))) dNext) (dFor (dIt (dVar 1)) (gdTup 2 (gdCons (gdName 5) (gdCons (gdName 6) gdNil))) (dIfS (dNot (dTru (dCall sd__law_same (dCons (dCallK sd_row_in [1, 0, 2] 0 3 dNil (dCons (dVar 5) (dCons (dVar 2) (dCons (dVar 4) dNil)))) (dCons (dGet1 (dOp rIxD (dOp rIxD (dVar 0) (dC (.str ("rows" : PySem.Str)))) (dVar 5)) (dVar 4)) dNil))))) (dRet (dC (.bl false))) dNext)))) (dRet (dC (.bl true)))))
theorem w__law_are_keys_right {P : Program} {w : World} {K : PySem.W.Frag} {mg : PySem.Str → Option Value} {base : Heap} {k : Nat} {sd__law_same sd__law_state_keys sd_keys_of sd__law_state_keyed sd_key_rows sd_row_in : SpD} (ev : Ev K mg) (h__law_same : Has P w K mg base k "_law_same" Hd.s__law_same [("one" : PySem.Str), ("other" : PySem.Str)] sd__law_same) (h__law_state_keys : Has P w K mg base k "_law_state_keys" Hd.s__law_state_keys [("own" : PySem.Str)] sd__law_state_keys) (h_keys_of : Has P w K mg base k "keys_of" Hd.s_keys_of [("state" : PySem.Str)] sd_keys_of) (h__law_state_keyed : Has P w K mg base k "_law_state_keyed" Hd.s__law_state_keyed [("own" : PySem.Str), ("key" : PySem.Str)] sd__law_state_keyed) (h_key_rows : Has P w K mg base k "key_rows" Hd.s_key_rows [("state" : PySem.Str), ("key" : PySem.Str)] sd_key_rows) (h_row_in : Has P w K mg base k "row_in" Hd.s_row_in [("state" : PySem.Str), ("table" : PySem.Str), ("key" : PySem.Str)] sd_row_in) {f : Addr} (cdv : Value) (A : Around) (outer : List Env) (s : Shared) (H : Hp) (E : XK) (hr : Room k (A.deeper (envOfC "_law_are_keys_right" (defScope Hd.s__law_are_keys_right) s.heap.objs.size f cdv))) : PSsd (cxOf CX0 P w K mg base n__law_are_keys_right "_law_are_keys_right" (defScope Hd.s__law_are_keys_right) f cdv A outer s H E).nox (defBody Hd.s__law_are_keys_right) (b__law_are_keys_right sd__law_same sd__law_state_keys sd_keys_of sd__law_state_keyed sd_key_rows sd_row_in) :=
  have hu : A.units + 3 + 64 < cLine := hr.units
  (psd_cons (psd_if (pt_notD (pt_tru (pd_call h__law_same hr (pda_cons (pd_callK0 (ks := [("state" : PySem.Str)]) (perm := [0]) h_keys_of hr (fun _ _ _ _ _ _ us ws hl hw => match us, ws, hl, hw with | [], [_], _, _ => rfl) (pkd_cons (pdv 2) pkd_nil)) (pda_cons (pd_callTy call_tuple_of ab_tuple ev.m_tuple (pda_cons (pd_call h__law_state_keys hr (pda_cons (pdv 0) pda_nil)) pda_nil)) pda_nil))))) (psd_one (psd_ret pd_bl)) psd_nil) (psd_cons (psd_for PassesOwn.never rfl (pid_any (pdv 3)) (pgd_name (i := 4) sc__law_are_keys_right.nd rfl (.inl rfl)) (psd_cons (psd_if (pt_notD (pt_tru (pd_call h__law_same hr (pda_cons (pd_callK0 (ks := [("key" : PySem.Str), ("state" : PySem.Str)]) (perm := [1, 0]) h_key_rows hr (fun _ _ _ _ _ _ us ws hl hw => match us, ws, hl, hw with | [], [_, _], _, _ => rfl) (pkd_cons (pdv 4) (pkd_cons (pdv 2) pkd_nil))) (pda_cons (pd_call h__law_state_keyed hr (pda_cons (pdv 0) (pda_cons (pdv 4) pda_nil))) pda_nil))))) (psd_one (psd_ret pd_bl)) psd_nil) (psd_one (psd_for PassesOwn.never rfl (pid_any (pdv 1)) (pgd_tup rfl (pgsd_cons (pgd_name (i := 5) sc__law_are_keys_right.nd rfl (.inl rfl)) (pgsd_cons (pgd_name (i := 6) sc__law_are_keys_right.nd rfl (.inl rfl)) pgsd_nil))) (psd_one (psd_if (pt_notD (pt_tru (pd_call h__law_same hr (pda_cons (pd_callK0 (ks := [("table" : PySem.Str), ("state" : PySem.Str), ("key" : PySem.Str)]) (perm := [1, 0, 2]) h_row_in hr (fun _ _ _ _ _ _ us ws hl hw => match us, ws, hl, hw with | [], [_, _, _], _, _ => rfl) (pkd_cons (pdv 5) (pkd_cons (pdv 2) (pkd_cons (pdv 4) pkd_nil)))) (pda_cons (pd_get1 hu (pd_ix hu (pd_ix hu (pdv 0) pd_str) (pdv 5)) (pdv 4) ⟨rfl, rfl, rfl, rfl⟩) pda_nil))))) (psd_one (psd_ret pd_bl)) psd_nil)))))) (psd_one (psd_ret pd_bl))))
abbrev n__law_scene : List PySem.Str := [("pot" : PySem.Str), ("keys" : PySem.Str), ("tables" : PySem.Str), ("own" : PySem.Str), ("table" : PySem.Str), ("lap" : PySem.Str)]
theorem sc__law_scene : FnScope n__law_scene [("pot" : PySem.Str), ("keys" : PySem.Str)] (defScope Hd.s__law_scene) := ⟨rfl, rfl, rfl, by decide +kernel, rfl, by decide +kernel, by decide +kernel⟩
def b__law_scene (sd__law_some : SpD) (sd__law_of : SpD) (sd__law_take : SpD) (sd__law_state_columns_drawn : SpD) (sd__law_state_dealt : SpD) (sd__law_state_changes_drawn : SpD) : DS := (dSeq (dAsg (dCall sd__law_some (dCons (dVar 0) (dCons (dFz (dLst (dCons (dC (.str ("a" : PySem.Str))) (dCons (dC (.str ("s" : PySem.Str))) (dCons (dC (.str ("t" : PySem.Str))) (dCons (dC (.str ("u" : PySem.Str))) (dCons (dC (.str ("zzzzzz" : PySem.Str))) dNil))))))) (dCons (dCall sd__law_of (dCons (dVar 0) (dCons (dFz (dLst (dCons (dC (.int 2)) (dCons (dC (.int 1)) (dCons (dC (.int 3)) (dCons (dC (.int 4)) (dCons (dC (.int 0)) dNil))))))) dNil))) dNil)))) (gdName 2)) (dSeq (dAsg (dFzK (dDisp [((dC (.str ("columns" : PySem.Str))), (dNewK dEmptyK)), ((dC (.str ("rows" : PySem.Str))), (dFzK (dCa rDictD (dCons (dFz (dLc (dIt (dVar 2)) (gdName 4) dYes (dTup (dCons (dVar 4) (dCons (dFzK dEmptyK) dNil))) (([(("table" : PySem.Str), 4)] : List (PySem.Str × Nat)).map (·.2)))) dNil))))])) (gdName 3)) (dSeq (dLk (dFor (dIt (dVar 2)) (gdName 4) (dPut (dOp rIxD (dVar 3) (dC (.str ("columns" : PySem.Str)))) (dVar 4) (dIf (dB (dOp rGtD (dCall sd__law_take (dCons (dVar 0) (dCons (dC (.int 6)) dNil))) (dC (.int 0)))) (dFz (dCa rListA (dCons (dCall sd__law_state_columns_drawn (dCons (dVar 0) dNil)) dNil))) (dFz (dLst dNil)))))) (dSeq (dFor (dRange1 (dCons (dC (.int 2)) dNil)) (gdName 5) (dAsg (dOp rIxD (dCall sd__law_state_dealt (dCons (dVar 3) (dCons (dCall sd__law_state_changes_drawn (dCons (dVar 0) (dCons (dVar 3) (dCons (dVar 1) (dCons (dC (.int 6)) dNil))))) dNil))) (dC (.int 0))) (gdName 3))) (dRet (dVar 3))))))
theorem w__law_scene {P : Program} {w : World} {K : PySem.W.Frag} {mg : PySem.Str → Option Value} {base : Heap} {k : Nat} {sd__law_some sd__law_of sd__law_take sd__law_state_columns_drawn sd__law_state_dealt sd__law_state_changes_drawn : SpD} (ev : Ev K mg) (h__law_some : Has P w K mg base k "_law_some" Hd.s__law_some [("pot" : PySem.Str), ("pool" : PySem.Str), ("many" : PySem.Str)] sd__law_some) (h__law_of : Has P w K mg base k "_law_of" Hd.s__law_of [("pot" : PySem.Str), ("some" : PySem.Str)] sd__law_of) (h__law_take : Has P w K mg base k "_law_take" Hd.s__law_take [("pot" : PySem.Str), ("upto" : PySem.Str)] sd__law_take) (h__law_state_columns_drawn : Has P w K mg base k "_law_state_columns_drawn" Hd.s__law_state_columns_drawn [("pot" : PySem.Str)] sd__law_state_columns_drawn) (h__law_state_dealt : Has P w K mg base k "_law_state_dealt" Hd.s__law_state_dealt [("own" : PySem.Str), ("changes" : PySem.Str)] sd__law_state_dealt) (h__law_state_changes_drawn : Has P w K mg base k "_law_state_changes_drawn" Hd.s__law_state_changes_drawn [("pot" : PySem.Str), ("own" : PySem.Str), ("keys" : PySem.Str), ("most" : PySem.Str)] sd__law_state_changes_drawn) {f : Addr} (cdv : Value) (A : Around) (outer : List Env) (s : Shared) (H : Hp) (E : XK) (hr : Room k (A.deeper (envOfC "_law_scene" (defScope Hd.s__law_scene) s.heap.objs.size f cdv))) : PSsd (cxOf CX0 P w K mg base n__law_scene "_law_scene" (defScope Hd.s__law_scene) f cdv A outer s H E).nox (defBody Hd.s__law_scene) (b__law_scene sd__law_some sd__law_of sd__law_take sd__law_state_columns_drawn sd__law_state_dealt sd__law_state_changes_drawn) :=
  have hu : A.units + 3 + 64 < cLine := hr.units
  (psd_cons (psd_set (i := 2) sc__law_scene.nd rfl (by first | exact .inl rfl | exact .inr rfl) (pd_call h__law_some hr (pda_cons (pdv 0) (pda_cons (pd_fz (pl_lst (pda_cons pd_str (pda_cons pd_str (pda_cons pd_str (pda_cons pd_str (pda_cons pd_str pda_nil))))))) (pda_cons (pd_call h__law_of hr (pda_cons (pdv 0) (pda_cons (pd_fz (pl_lst (pda_cons pd_int (pda_cons pd_int (pda_cons pd_int (pda_cons pd_int (pda_cons pd_int pda_nil))))))) pda_nil))) pda_nil))))) (psd_cons (psd_set (i := 3) sc__law_scene.nd rfl (by first | exact .inl rfl | exact .inr rfl) (pd_fzK (pk_disp (ppsd_cons pd_str (pd_newK pk_empty) (ppsd_cons pd_str (pd_fzK (pk_callTy (call_dictP rfl) ab_dict ev.m_dict (pda_cons (pd_fz (pl_lc (own := [(("table" : PySem.Str), 4)]) rfl sc__law_scene.nd (pid_any (pdv 2)) (blkOk_by (N := n__law_scene) (sc := defScope Hd.s__law_scene) (by decide +kernel)) (fun _ => (pgw_name (i := 4) (by decide) sc__law_scene.nd rfl (by first | exact .inl rfl | exact .inr rfl))) (fun _ => ptsd_nil) (fun _ => (pd_tup (pda_cons (pdv 4) (pda_cons (pd_fzK pk_empty) pda_nil)))))) pda_nil))) ppsd_nil))))) (psd_cons (psd_lk (psd_for PassesOwn.never rfl (pid_any (pdv 2)) (pgd_name (i := 4) sc__law_scene.nd rfl (.inl rfl)) (psd_one (psd_put hu (pd_ix hu (pdv 3) pd_str) (pdv 4) (pd_ite (pt_gt (pd_call h__law_take hr (pda_cons (pdv 0) (pda_cons pd_int pda_nil))) pd_int) (pd_fz (pl_callTy (cr_listA rfl) ab_listA ev.m_list (pda_cons (pd_call h__law_state_columns_drawn hr (pda_cons (pdv 0) pda_nil)) pda_nil))) (pd_fz (pl_lst pda_nil))))))) (psd_cons (psd_for PassesOwn.never rfl (pid_range1 ev.m_range (pda_cons pd_int pda_nil)) (pgd_name (i := 5) sc__law_scene.nd rfl (.inl rfl)) (psd_one (psd_set (i := 3) sc__law_scene.nd rfl (by first | exact .inl rfl | exact .inr rfl) (pd_ix hu (pd_call h__law_state_dealt hr (pda_cons (pdv 3) (pda_cons (pd_call h__law_state_changes_drawn hr (pda_cons (pdv 0) (pda_cons (pdv 3) (pda_cons (pdv 1) (pda_cons pd_int pda_nil))))) pda_nil))) pd_int)))) (psd_one (psd_ret (pdv 3)))))))
abbrev n__law_right : List PySem.Str := [("pot" : PySem.Str), ("keys" : PySem.Str), ("own" : PySem.Str), ("schema" : PySem.Str), ("state" : PySem.Str), ("lap" : PySem.Str), ("back" : PySem.Str), ("here" : PySem.Str), ("key" : PySem.Str), ("rows" : PySem.Str), ("told" : PySem.Str)]
theorem sc__law_right : FnScope n__law_right [("pot" : PySem.Str)] (defScope Hd.s__law_right) := ⟨rfl, rfl, rfl, by decide +kernel, rfl, by decide +kernel, by decide +kernel⟩
def b__law_right (sd__law_scene : SpD) (sd__law_state_schema : SpD) (sd__law_state_told : SpD) (sd__law_are_keys_right : SpD) (sd__law_of : SpD) (sd__law_rows_drawn : SpD) (sd_with_key_rows : SpD) (sd__law_same : SpD) (sd__law_laid : SpD) (sd_empty_state : SpD) (sd__law_state_keys : SpD) (sd__law_some : SpD) (sd_key_rows : SpD) : DS := (dSeq (dAsg (dFz (dLst (dCons (dC (.int 1)) (dCons (dC (.int 2)) (dCons (dC (.int 3)) (dCons (dC (.int 7)) (dCons (dC (.int 12)) (dCons (dC (.int 999999)) dNil)))))))) (gdName 1)) (dSeq (dAsg (dCall sd__law_scene (dCons (dVar 0) (dCons (dVar 1) dNil))) (gdName 2)) (dSeq (dPar 3 4 (dCons (dCall sd__law_state_schema (dCons (dVar 2) dNil)) (dCons (dCall sd__law_state_told (dCons (dVar 2) dNil)) dNil))) (dSeq (dIfS (dNot (dTru (dCall sd__law_are_keys_right (dCons (dVar 2) (dCons (dVar 3) (dCons (dVar 4) (dCons (dVar 1) dNil))))))) (dRet (dC (.bl false))) dNext) (dSeq (dFor (dRange1 (dCons (dC (.int 3)) dNil)) (gdName 5) (dSeq (dPar 8 9 (dCons (dCall sd__law_of (dCons (dVar 0) (dCons (dVar 1) dNil))) (dCons (dCall sd__law_rows_drawn (dCons (dVar 0) (dCons (dVar 2) dNil))) dNil))) (dSeq (dAsg (dCallK sd_with_key_rows [3, 2, 1, 0] 0 4 dNil (dCons (dVar 9) (dCons (dVar 8) (dCons (dVar 4) (dCons (dVar 3) dNil))))) (gdName 10)) (dIfS (dNot (dTru (dCall sd__law_same (dCons (dVar 10) (dCons (dCall sd__law_state_told (dCons (dCall sd__law_laid (dCons (dVar 2) (dCons (dVar 8) (dCons (dVar 9) dNil)))) dNil)) dNil))))) (dRet (dC (.bl false))) dNext)))) (dSeq (dPar 6 7 (dCons (dCall sd_empty_state (dCons (dVar 3) dNil)) (dCons (dCall sd__law_state_keys (dCons (dVar 2) dNil)) dNil))) (dSeq (dFor (dIt (dCall sd__law_some (dCons (dVar 0) (dCons (dVar 7) (dCons (dCa rLenD (dCons (dVar 7) dNil)) dNil))))) (gdName 8) (dAsg (dCall sd_with_key_rows (dCons (dVar 3) (dCons (dVar 6) (dCons (dVar 8) (dCons (dCall sd_key_rows (dCons (dVar 4) (dCons (dVar 8) dNil))) dNil))))) (gdName 6))) (dRet (dCall sd__law_same (dCons (dVar 6) (dCons (dVar 4) dNil)))))))))))
theorem w__law_right {P : Program} {w : World} {K : PySem.W.Frag} {mg : PySem.Str → Option Value} {base : Heap} {k : Nat} {sd__law_scene sd__law_state_schema sd__law_state_told sd__law_are_keys_right sd__law_of sd__law_rows_drawn sd_with_key_rows sd__law_same sd__law_laid sd_empty_state sd__law_state_keys sd__law_some sd_key_rows : SpD} (ev : Ev K mg) (h__law_scene : Has P w K mg base k "_law_scene" Hd.s__law_scene [("pot" : PySem.Str), ("keys" : PySem.Str)] sd__law_scene) (h__law_state_schema : Has P w K mg base k "_law_state_schema" Hd.s__law_state_schema [("own" : PySem.Str)] sd__law_state_schema) (h__law_state_told : Has P w K mg base k "_law_state_told" Hd.s__law_state_told [("own" : PySem.Str)] sd__law_state_told) (h__law_are_keys_right : Has P w K mg base k "_law_are_keys_right" Hd.s__law_are_keys_right [("own" : PySem.Str), ("schema" : PySem.Str), ("state" : PySem.Str), ("keys" : PySem.Str)] sd__law_are_keys_right) (h__law_of : Has P w K mg base k "_law_of" Hd.s__law_of [("pot" : PySem.Str), ("some" : PySem.Str)] sd__law_of) (h__law_rows_drawn : Has P w K mg base k "_law_rows_drawn" Hd.s__law_rows_drawn [("pot" : PySem.Str), ("own" : PySem.Str)] sd__law_rows_drawn) (h_with_key_rows : Has P w K mg base k "with_key_rows" Hd.s_with_key_rows [("schema" : PySem.Str), ("state" : PySem.Str), ("key" : PySem.Str), ("rows" : PySem.Str)] sd_with_key_rows) (h__law_same : Has P w K mg base k "_law_same" Hd.s__law_same [("one" : PySem.Str), ("other" : PySem.Str)] sd__law_same) (h__law_laid : Has P w K mg base k "_law_laid" Hd.s__law_laid [("own" : PySem.Str), ("key" : PySem.Str), ("rows" : PySem.Str)] sd__law_laid) (h_empty_state : Has P w K mg base k "empty_state" Hd.s_empty_state [("schema" : PySem.Str)] sd_empty_state) (h__law_state_keys : Has P w K mg base k "_law_state_keys" Hd.s__law_state_keys [("own" : PySem.Str)] sd__law_state_keys) (h__law_some : Has P w K mg base k "_law_some" Hd.s__law_some [("pot" : PySem.Str), ("pool" : PySem.Str), ("many" : PySem.Str)] sd__law_some) (h_key_rows : Has P w K mg base k "key_rows" Hd.s_key_rows [("state" : PySem.Str), ("key" : PySem.Str)] sd_key_rows) {f : Addr} (cdv : Value) (A : Around) (outer : List Env) (s : Shared) (H : Hp) (E : XK) (hr : Room k (A.deeper (envOfC "_law_right" (defScope Hd.s__law_right) s.heap.objs.size f cdv))) : PSsd (cxOf CX0 P w K mg base n__law_right "_law_right" (defScope Hd.s__law_right) f cdv A outer s H E).nox (defBody Hd.s__law_right) (b__law_right sd__law_scene sd__law_state_schema sd__law_state_told sd__law_are_keys_right sd__law_of sd__law_rows_drawn sd_with_key_rows sd__law_same sd__law_laid sd_empty_state sd__law_state_keys sd__law_some sd_key_rows) :=
  have hu : A.units + 3 + 64 < cLine := hr.units
  (psd_cons (psd_set (i := 1) sc__law_right.nd rfl (by first | exact .inl rfl | exact .inr rfl) (pd_fz (pl_lst (pda_cons pd_int (pda_cons pd_int (pda_cons pd_int (pda_cons pd_int (pda_cons pd_int (pda_cons pd_int pda_nil))))))))) (psd_cons (psd_set (i := 2) sc__law_right.nd rfl (by first | exact .inl rfl | exact .inr rfl) (pd_call h__law_scene hr (pda_cons (pdv 0) (pda_cons (pdv 1) pda_nil)))) (psd_cons (psd_par (i := 3) (j := 4) rfl sc__law_right.nd rfl rfl (by decide) rfl rfl (pda_cons (pd_call h__law_state_schema hr (pda_cons (pdv 2) pda_nil)) (pda_cons (pd_call h__law_state_told hr (pda_cons (pdv 2) pda_nil)) pda_nil)) rfl) (psd_cons (psd_if (pt_notD (pt_tru (pd_call h__law_are_keys_right hr (pda_cons (pdv 2) (pda_cons (pdv 3) (pda_cons (pdv 4) (pda_cons (pdv 1) pda_nil))))))) (psd_one (psd_ret pd_bl)) psd_nil) (psd_cons (psd_for PassesOwn.never rfl (pid_range1 ev.m_range (pda_cons pd_int pda_nil)) (pgd_name (i := 5) sc__law_right.nd rfl (.inl rfl)) (psd_cons (psd_par (i := 8) (j := 9) rfl sc__law_right.nd rfl rfl (by decide) rfl rfl (pda_cons (pd_call h__law_of hr (pda_cons (pdv 0) (pda_cons (pdv 1) pda_nil))) (pda_cons (pd_call h__law_rows_drawn hr (pda_cons (pdv 0) (pda_cons (pdv 2) pda_nil))) pda_nil)) rfl) (psd_cons (psd_set (i := 10) sc__law_right.nd rfl (by first | exact .inl rfl | exact .inr rfl) (pd_callK0 (ks := [("rows" : PySem.Str), ("key" : PySem.Str), ("state" : PySem.Str), ("schema" : PySem.Str)]) (perm := [3, 2, 1, 0]) h_with_key_rows hr (fun _ _ _ _ _ _ us ws hl hw => match us, ws, hl, hw with | [], [_, _, _, _], _, _ => rfl) (pkd_cons (pdv 9) (pkd_cons (pdv 8) (pkd_cons (pdv 4) (pkd_cons (pdv 3) pkd_nil)))))) (psd_one (psd_if (pt_notD (pt_tru (pd_call h__law_same hr (pda_cons (pdv 10) (pda_cons (pd_call h__law_state_told hr (pda_cons (pd_call h__law_laid hr (pda_cons (pdv 2) (pda_cons (pdv 8) (pda_cons (pdv 9) pda_nil)))) pda_nil)) pda_nil))))) (psd_one (psd_ret pd_bl)) psd_nil))))) (psd_cons (psd_par (i := 6) (j := 7) rfl sc__law_right.nd rfl rfl (by decide) rfl rfl (pda_cons (pd_call h_empty_state hr (pda_cons (pdv 3) pda_nil)) (pda_cons (pd_call h__law_state_keys hr (pda_cons (pdv 2) pda_nil)) pda_nil)) rfl) (psd_cons (psd_for PassesOwn.never rfl (pid_any (pd_call h__law_some hr (pda_cons (pdv 0) (pda_cons (pdv 7) (pda_cons (pd_callB cr_lenA ab_len ev.m_len (pda_cons (pdv 7) pda_nil)) pda_nil))))) (pgd_name (i := 8) sc__law_right.nd rfl (.inl rfl)) (psd_one (psd_set (i := 6) sc__law_right.nd rfl (by first | exact .inl rfl | exact .inr rfl) (pd_call h_with_key_rows hr (pda_cons (pdv 3) (pda_cons (pdv 6) (pda_cons (pdv 8) (pda_cons (pd_call h_key_rows hr (pda_cons (pdv 4) (pda_cons (pdv 8) pda_nil))) pda_nil)))))))) (psd_one (psd_ret (pd_call h__law_same hr (pda_cons (pdv 6) (pda_cons (pdv 4) pda_nil))))))))))))
abbrev n_law : List PySem.Str := [("script" : PySem.Str), ("place" : PySem.Str)]
theorem sc_law : FnScope n_law [("script" : PySem.Str)] (defScope Hd.s_law) := ⟨rfl, rfl, rfl, by decide +kernel, rfl, by decide +kernel, by decide +kernel⟩
def b_law (sd__law_cells : SpD) (sd__law_right : SpD) (sd__law_pot : SpD) : DS := (dRet (dCa rAllD (dCons (dFz (dLc (dIt (dCall sd__law_cells (dCons (dVar 0) (dCons (dC (.int 2)) dNil)))) (gdName 1) dYes (dCall sd__law_right (dCons (dCall sd__law_pot (dCons (dVar 0) (dCons (dVar 1) dNil))) dNil)) (([(("place" : PySem.Str), 1)] : List (PySem.Str × Nat)).map (·.2)))) dNil)))
theorem w_law {P : Program} {w : World} {K : PySem.W.Frag} {mg : PySem.Str → Option Value} {base : Heap} {k : Nat} {sd__law_cells sd__law_right sd__law_pot : SpD} (ev : Ev K mg) (h__law_cells : Has P w K mg base k "_law_cells" Hd.s__law_cells [("script" : PySem.Str), ("most" : PySem.Str)] sd__law_cells) (h__law_right : Has P w K mg base k "_law_right" Hd.s__law_right [("pot" : PySem.Str)] sd__law_right) (h__law_pot : Has P w K mg base k "_law_pot" Hd.s__law_pot [("script" : PySem.Str), ("place" : PySem.Str)] sd__law_pot) {f : Addr} (cdv : Value) (A : Around) (outer : List Env) (s : Shared) (H : Hp) (E : XK) (hr : Room k (A.deeper (envOfC "law" (defScope Hd.s_law) s.heap.objs.size f cdv))) : PSsd (cxOf CX0 P w K mg base n_law "law" (defScope Hd.s_law) f cdv A outer s H E).nox (defBody Hd.s_law) (b_law sd__law_cells sd__law_right sd__law_pot) :=
  have hu : A.units + 3 + 64 < cLine := hr.units
  (psd_one (psd_ret (pd_callB (cr_all rfl) ab_all ev.m_all (pda_cons (pd_fz (pl_lc (own := [(("place" : PySem.Str), 1)]) rfl sc_law.nd (pid_any (pd_call h__law_cells hr (pda_cons (pdv 0) (pda_cons pd_int pda_nil)))) (blkOk_by (N := n_law) (sc := defScope Hd.s_law) (by decide +kernel)) (fun _ => (pgw_name (i := 1) (by decide) sc_law.nd rfl (by first | exact .inl rfl | exact .inr rfl))) (fun _ => ptsd_nil) (fun _ => (pd_call h__law_right hr (pda_cons (pd_call h__law_pot hr (pda_cons (pdv 0) (pda_cons (pdv 1) pda_nil))) pda_nil))))) pda_nil))))
end Gk

end
section
set_option maxHeartbeats 1000000
namespace K5
open PySem PySem.Spec PyProof.Rows L2 Dl
/-! ### data -/
def kindS (b : Bool) : Str := if b = true then "int" else "text"
def colD (c : Str × Bool) : D := .tup [.str c.1, .str (kindS c.2)]
def texts : List Str := ["", "a", "b", "x-y", "p-q-r", "7", "007", "-3", "none", "'", "-", "longer-text"]
def valOk (b : Bool) (v : D) : Prop := v = .non ∨ (b = true ∧ ∃ i : Int, v = .int i ∧ -99999999999 ≤ i ∧ i ≤ 99999999999) ∨ (b = false ∧ ∃ s ∈ texts, v = .str s)
def valsOk : List (Str × Bool) → List D → Prop
  | [], [] => True
  | c :: cs, v :: vs => valOk c.2 v ∧ valsOk cs vs
  | _, _ => False
structure Tb where
  nm : Str
  cs : List (Str × Bool)
  rw : List (Int × List D)
def names5 : List Str := ["a", "s", "t", "u", "zzzzzz"]
def cnames : List Str := ["a", "b", "c", "d", "name"]
def keys6 : List Int := [1, 2, 3, 7, 12, 999999]
structure ColsOk (cs : List (Str × Bool)) : Prop where
  nd : (cs.map (·.1)).Nodup
  nms : ∀ c ∈ cs, c.1 ∈ cnames
structure TbOk (t : Tb) : Prop where
  nm : t.nm ∈ names5
  cs : ColsOk t.cs
  nd : (t.rw.map (·.1)).Nodup
  rw : ∀ r ∈ t.rw, r.1 ∈ keys6 ∧ valsOk t.cs r.2
def rowD (r : Int × List D) : D := .tup [.int r.1, .tup r.2]
def tsD (t : Tb) : D := .tup [.str t.nm, .tup (t.cs.map colD)]
def tbD (t : Tb) : D := .tup [.str t.nm, .tup (t.rw.map rowD)]
def scD (S : List Tb) : D := .tup (S.map tsD)
def stD (S : List Tb) : D := .tup (S.map tbD)
/-- names rise, rows' keys rise -/
structure SOk (S : List Tb) : Prop where
  up : S.Pairwise fun a b => ltKey (.inr a.nm) (.inr b.nm) = true
  ok : ∀ t ∈ S, TbOk t
  rise : ∀ t ∈ S, t.rw.Pairwise fun a b => a.1 < b.1
theorem nodup_le {α : Type} [DecidableEq α] : ∀ {l m : List α}, l.Nodup → (∀ x ∈ l, x ∈ m) → l.length ≤ m.length
  | [], _, _, _ => Nat.zero_le _
  | x :: l, m, h, s => by
    obtain ⟨h1, h2⟩ := List.nodup_cons.mp h
    have hm : x ∈ m := s x List.mem_cons_self
    have ih := nodup_le (l := l) (m := m.erase x) h2 fun y hy => by
      refine (List.mem_erase_of_ne fun e => h1 (by rw [← e]; exact hy)).mpr (s y (List.mem_cons_of_mem _ hy))
    have e := List.length_erase_of_mem hm
    have p : 0 < m.length := List.length_pos_of_mem hm
    rw [List.length_cons]
    omega
theorem valsOk_len : ∀ {cs : List (Str × Bool)} {vs : List D}, valsOk cs vs → vs.length = cs.length
  | [], [], _ => rfl
  | _ :: cs, _ :: vs, h => by rw [List.length_cons, List.length_cons, valsOk_len h.2]
  | [], _ :: _, h => h.elim
  | _ :: _, [], h => h.elim
theorem ColsOk.len {cs : List (Str × Bool)} (h : ColsOk cs) : cs.length ≤ 5 := by
  have z := nodup_le h.nd (m := cnames) fun x hx => by
    obtain ⟨c, hc, rfl⟩ := List.mem_map.mp hx
    exact h.nms c hc
  rw [List.length_map] at z
  exact z
theorem TbOk.len {t : Tb} (h : TbOk t) : t.rw.length ≤ 6 := by
  have z := nodup_le h.nd (m := keys6) fun x hx => by
    obtain ⟨c, hc, rfl⟩ := List.mem_map.mp hx
    exact (h.rw c hc).1
  rw [List.length_map] at z
  exact z
theorem SOk.nd {S : List Tb} (h : SOk S) : (S.map (·.nm)).Nodup := by
  rw [List.Nodup, List.pairwise_map]
  refine h.up.imp fun {a b} q e => ?_
  rw [e, ltKey_irr] at q
  cases q
theorem SOk.len {S : List Tb} (h : SOk S) : S.length ≤ 5 := by
  have z := nodup_le h.nd (m := names5) fun x hx => by
    obtain ⟨c, hc, rfl⟩ := List.mem_map.mp hx
    exact (h.ok c hc).nm
  rw [List.length_map] at z
  exact z
end K5

end
section
set_option maxHeartbeats 1000000
namespace K5
open PySem PySem.Spec PyProof.Rows L2 Dl Gk
abbrev Rd (b : DS) (N : List Str) (sd : SpD) : Prop := ∀ ds G Q, sd ds G Q → b { nx := fun _ G' => FgQ Q .non G', rt := FgQ Q } (startD N ds) G
def tr (P : List D → Prop) : SpD := fun ds G Q => P ds ∧ Q (.bl true) G
/-! ### checks -/
def sd_is_whole : SpD := tr fun ds => ∃ i, ds = [.int i]
theorem r_is_whole : Rd b_is_whole n_is_whole sd_is_whole := by
  rintro ds G Q ⟨⟨i, rfl⟩, q⟩
  simpa [b_is_whole] using FgQ.of q
def sd_is_integer : SpD := tr fun ds => ∃ i a b : Int, ds = [.int i, .int a, .int b] ∧ a ≤ i ∧ i ≤ b
theorem r_is_integer : Rd (b_is_integer sd_is_whole) n_is_integer sd_is_integer := by
  rintro ds G Q ⟨⟨i, a, b, rfl, h1, h2⟩, q⟩
  simpa [b_is_integer, sd_is_whole, tr, h1, h2] using FgQ.of q
def sd_is_tuple : SpD := tr fun ds => ∃ (xs : List D) (a b : Int), ds = [.tup xs, .int a, .int b] ∧ a ≤ xs.length ∧ xs.length ≤ b
theorem r_is_tuple : Rd b_is_tuple n_is_tuple sd_is_tuple := by
  rintro ds G Q ⟨⟨xs, a, b, rfl, h1, h2⟩, q⟩
  simpa [b_is_tuple, h1, h2] using FgQ.of q
def sd_is_string : SpD := tr fun ds => ∃ (s : Str) (xs : List D), ds = [.str s, .tup xs] ∧ xs.all flatD = true ∧ inD (.str s) xs = true
theorem r_is_string : Rd b_is_string n_is_string sd_is_string := by
  rintro ds G Q ⟨⟨s, xs, rfl, h1, h2⟩, q⟩
  have h1' : ∀ x ∈ xs, flatD x = true := List.all_eq_true.mp h1
  simp [b_is_string, h2]
  exact ⟨h1', FgQ.of q⟩
def sd_is_key : SpD := tr fun ds => ∃ i : Int, ds = [.int i] ∧ 1 ≤ i ∧ i ≤ 999999
theorem r_is_key : Rd (b_is_key sd_is_integer) n_is_key sd_is_key := by
  rintro ds G Q ⟨⟨i, rfl, h1, h2⟩, q⟩
  simp [b_is_key]
  exact ⟨⟨i, 1, 999999, rfl, h1, h2⟩, FgQ.of q⟩
def strsOf (ss : List Str) : List D := ss.map D.str
theorem zip_tail {α : Type} {r : α → α → Prop} {f : α → D} : ∀ {l : List α}, l.Pairwise r → ∀ x ∈ zipD (l.map f) ((l.map f).drop 1), ∃ a b, a ∈ l ∧ b ∈ l ∧ r a b ∧ x = .tup [f a, f b]
  | [], _, x, h => by cases h
  | [a], _, x, h => by cases h
  | a :: b :: l, p, x, h => by
    obtain ⟨p1, p2⟩ := List.pairwise_cons.mp p
    have h' : x = .tup [f a, f b] ∨ x ∈ zipD ((b :: l).map f) (((b :: l).map f).drop 1) := by
      have e : zipD ((a :: b :: l).map f) (((a :: b :: l).map f).drop 1) = .tup [f a, f b] :: zipD ((b :: l).map f) (((b :: l).map f).drop 1) := rfl
      rw [e] at h
      exact List.mem_cons.mp h
    rcases h' with rfl | h'
    · exact ⟨a, b, List.mem_cons_self, List.mem_cons_of_mem _ List.mem_cons_self, p1 b List.mem_cons_self, rfl⟩
    · obtain ⟨c, d, h1, h2, h3, h4⟩ := zip_tail p2 x h'
      exact ⟨c, d, List.mem_cons_of_mem _ h1, List.mem_cons_of_mem _ h2, h3, h4⟩
@[simp] theorem all_true {α : Type} {l : List α} : l.all (asBl ∘ fun _ => D.bl true) = true := by
  rw [List.all_eq_true]
  exact fun x _ => rfl
theorem cut1 {α : Type} (l : List α) : Dl.cutD l (some 1) none = l.drop 1 := by
  have e : HT.sIx l.length 0 (some 1) = min 1 l.length := HT.sIx_nat l.length 0 1
  have e2 : HT.sIx l.length l.length none = l.length := rfl
  unfold Dl.cutD
  rw [e, e2]
  cases l with
  | nil => rfl
  | cons a r =>
    have z : min 1 (a :: r).length = 1 := by rw [List.length_cons]; omega
    rw [z]
    exact List.take_of_length_le (by rw [List.length_drop]; omega)
def sd_are_ascending : SpD := tr fun ds => ∃ ks : List Key, ds = [.lst (ks.map keyV)] ∧ ks.Pairwise (fun a b => ltKey a b = true) ∧ oneKind ks = true
theorem r_are_ascending : Rd b_are_ascending n_are_ascending sd_are_ascending := by
  rintro ds G Q ⟨⟨ks, rfl, h1, h2⟩, q⟩
  simp [b_are_ascending, cut1]
  refine lcGo_pure (fun _ => .bl true) (fun x hx Q' hq => ?_) ?_
  · obtain ⟨a, b, ha, hb, hr, rfl⟩ := zip_tail h1 x (by simpa using hx)
    rcases SP.one_split h2 with o | o
    · obtain ⟨i, rfl⟩ := o a ha
      obtain ⟨j, rfl⟩ := o b hb
      have z : i < j := of_decide_eq_true hr
      simpa [z] using hq
    · obtain ⟨i, rfl⟩ := o a ha
      obtain ⟨j, rfl⟩ := o b hb
      simp [ltKey] at hr
      simpa [hr] using hq
  · simpa using FgQ.of q
theorem putD_new {κ α : Type} [DecidableEq κ] {l : List (κ × α)} {k : κ} {v : α} (h : k ∉ l.map (·.1)) : putD l k v = l ++ [(k, v)] := by
  unfold putD
  rw [if_neg]
  intro z
  rw [List.any_eq_true] at z
  obtain ⟨p, hp, e⟩ := z
  exact h (List.mem_map.mpr ⟨p, hp, of_decide_eq_true e⟩)
theorem merge_nd : ∀ (ps acc : List (Key × D)), ((acc ++ ps).map (·.1)).Nodup → mergeD acc ps = acc ++ ps
  | [], acc, _ => by show acc = acc ++ []; rw [List.append_nil]
  | (k, d) :: ps, acc, h => by
    show mergeD (putD acc k d) ps = _
    have hk : k ∉ acc.map (·.1) := fun z => by
      rw [List.map_append, List.map_cons] at h
      exact (List.nodup_append.mp h).2.2 k z k List.mem_cons_self rfl
    rw [putD_new hk, merge_nd ps (acc ++ [(k, d)]) (by rw [List.append_assoc]; exact h), List.append_assoc]
    rfl
theorem merge_nil {ps : List (Key × D)} (h : (ps.map (·.1)).Nodup) : mergeD [] ps = ps := by
  rw [merge_nd ps [] (by simpa using h)]; rfl
theorem pairs_key {α : Type} (f : α → Key) (g : α → D) : ∀ l : List α, pairsD (l.map fun x => D.tup [keyV (f x), g x]) = some (l.map fun x => (f x, g x))
  | [] => rfl
  | x :: l => by
    have ih := pairs_key f g l
    have e : keyD (keyV (f x)) = some (f x) := by cases f x <;> rfl
    rw [List.map_cons, List.map_cons]
    unfold pairsD
    rw [e, ih]
def sd_are_unlike : SpD := tr fun ds => ∃ ks : List Key, ds = [.lst (ks.map keyV)] ∧ ks.Nodup
theorem r_are_unlike : Rd b_are_unlike n_are_unlike sd_are_unlike := by
  rintro ds G Q ⟨⟨ks, rfl, h1⟩, q⟩
  simp [b_are_unlike]
  refine lcGo_pure (fun x => .tup [x, .bl true]) (fun x hx Q' hq => ?_) ?_
  · simpa using hq
  · simp
    refine ⟨_, pairs_key id (fun _ => D.bl true) ks, ?_⟩
    rw [merge_nil (by rw [List.map_map, show ((fun x : Key × D => x.1) ∘ fun x => (id x, D.bl true)) = id from rfl, List.map_id]; exact h1)]
    simpa [eqvD, D.toP, PyData.eqv, Dl.plain] using FgQ.of q
/-! ### names, texts, kinds -/
def nameOk (s : Str) : Bool := decide (1 ≤ s.length) && decide (s.length ≤ 6) && (signsD s).all fun d => match d with
  | .str c => !(Builtin.Str.occurrences ("abcdefghijklmnopqrstuvwxyz" : PySem.Str) c 0 ("abcdefghijklmnopqrstuvwxyz" : PySem.Str).length 1).isEmpty
  | _ => false
def sd_is_name : SpD := tr fun ds => ∃ s, ds = [.str s] ∧ nameOk s = true
theorem r_is_name : Rd b_is_name n_is_name sd_is_name := by
  rintro ds G Q ⟨⟨s, rfl, h⟩, q⟩
  unfold nameOk at h
  rw [Bool.and_eq_true, Bool.and_eq_true, decide_eq_true_eq, decide_eq_true_eq, List.all_eq_true] at h
  obtain ⟨⟨h1, h2⟩, h3⟩ := h
  have h1' : (1 : Int) ≤ (s.length : Int) := by omega
  have h2' : (s.length : Int) ≤ 6 := by omega
  simp [b_is_name, h1', h2']
  refine lcGo_pure (fun _ => .bl true) (fun x hx Q' hq => ?_) ?_
  · have hx' := h3 x hx
    unfold signsD at hx
    obtain ⟨c, hc, rfl⟩ := List.mem_map.mp hx
    have key : ∀ b : Bool, b = true → Q' (.bl b) G := by
      rintro _ rfl; exact hq
    exact ⟨_, rfl, _, rfl, key _ hx'⟩
  · simpa using FgQ.of q
def textOk (s : Str) : Bool := decide (s.length ≤ 12) && (signsD s).all fun d => match d with
  | .str c => (!decide (c.cps.toList < ("!" : PySem.Str).cps.toList)) && !decide (("~" : PySem.Str).cps.toList < c.cps.toList)
  | _ => false
def sd_is_text_value : SpD := tr fun ds => ∃ s, ds = [.str s] ∧ textOk s = true
theorem text_walk {s : Str} (h : textOk s = true) : s.length ≤ 12 ∧ ∀ x ∈ signsD s, ∃ c : Str, x = .str c ∧ (!decide (c.cps.toList < ("!" : PySem.Str).cps.toList)) = true ∧ (!decide (("~" : PySem.Str).cps.toList < c.cps.toList)) = true := by
  unfold textOk at h
  rw [Bool.and_eq_true, decide_eq_true_eq, List.all_eq_true] at h
  obtain ⟨h1, h2⟩ := h
  refine ⟨h1, fun x hx => ?_⟩
  have hx' := h2 x hx
  unfold signsD at hx
  obtain ⟨c, hc, rfl⟩ := List.mem_map.mp hx
  refine ⟨_, rfl, ?_⟩
  have hx2 : ((!decide ((⟨#[c]⟩ : Str).cps.toList < ("!" : PySem.Str).cps.toList)) && !decide (("~" : PySem.Str).cps.toList < (⟨#[c]⟩ : Str).cps.toList)) = true := hx'
  exact (Bool.and_eq_true _ _).mp hx2 |> fun z => z
theorem chain_text {c : Str} {σ : Sd} {G : Gp} {Q : KD} {i : Nat} (hi : σ[i]? = some (some (.str c))) (h1 : (!decide (c.cps.toList < ("!" : PySem.Str).cps.toList)) = true) (h2 : (!decide (("~" : PySem.Str).cps.toList < c.cps.toList)) = true) (hq : Q (.bl true) G) : dChain rLeD rLeD (dC (.str ("!" : PySem.Str))) (dVar i) (dC (.str ("~" : PySem.Str))) σ G Q := by
  refine ⟨_, hi, ?_⟩
  show (match D.bl (!decide (c.cps.toList < ("!" : PySem.Str).cps.toList)) with
    | .bl true => dC (.str ("~" : PySem.Str)) σ G fun w G4 => rLeD (.str c) w G4 Q
    | .bl false => Q (.bl false) G
    | _ => False)
  rw [h1]
  show Q (.bl (!decide (("~" : PySem.Str).cps.toList < c.cps.toList))) G
  rw [h2]; exact hq
theorem r_is_text_value : Rd b_is_text_value n_is_text_value sd_is_text_value := by
  rintro ds G Q ⟨⟨s, rfl, h⟩, q⟩
  obtain ⟨h1, h2⟩ := text_walk h
  have h1' : ¬ (12 : Int) < (s.length : Int) := by omega
  simp only [b_is_text_value]
  simp [h1', -dChain]
  refine lcGo_pure (fun _ => .bl true) (fun x hx Q' hq => ?_) ?_
  · obtain ⟨c, rfl, c1, c2⟩ := h2 x hx
    exact chain_text (i := 1) rfl c1 c2 hq
  · simpa using FgQ.of q
theorem texts_ok : ∀ s ∈ texts, textOk s = true := by decide +kernel
theorem kind_eq (b : Bool) : eqvD (.str (kindS b)) (.str ("int" : PySem.Str)) = b := by cases b <;> decide +kernel
theorem names_ok : ∀ s ∈ names5 ++ cnames, nameOk s = true := by decide +kernel
theorem kinds_in (b : Bool) : inD (.str (kindS b)) [.str ("int" : PySem.Str), .str ("text" : PySem.Str)] = true := by cases b <;> decide +kernel
def sd_is_of_kind : SpD := tr fun ds => ∃ v b, ds = [v, .str (kindS b)] ∧ valOk b v
theorem r_is_of_kind : Rd (b_is_of_kind sd_is_integer sd_is_text_value) n_is_of_kind sd_is_of_kind := by
  rintro ds G Q ⟨⟨v, b, rfl, h⟩, q⟩
  have e := kind_eq b
  rcases h with rfl | ⟨rfl, i, rfl, h1, h2⟩ | ⟨rfl, s, hs, rfl⟩
  · simpa [b_is_of_kind] using FgQ.of q
  · simp [b_is_of_kind, e, Dl.plain]
    exact ⟨⟨i, -99999999999, 99999999999, rfl, h1, h2⟩, FgQ.of q⟩
  · simp [b_is_of_kind, e, Dl.plain]
    exact ⟨⟨s, rfl, texts_ok s hs⟩, FgQ.of q⟩
end K5

end
section
set_option maxHeartbeats 1000000
namespace K5
open PySem PySem.Spec PyProof.Rows L2 Dl Gk
theorem lcGo_all {dg : DG} {de : DE} {vs : List Nat} {σ : Sd} {G : Gp} {xs : List D} {K : KDs} (h : ∀ x ∈ xs, ∀ Q : KD, Q (.bl true) G → dg x (wipeD σ vs) G fun σ1 G1 => de σ1 G1 Q)
    (q : ∀ ds : List D, (∀ x, x ∈ ds → isBl x = true) → (¬ ∃ x, x ∈ ds ∧ asBl x = false) → K ds G) : lcGo dg dYes de vs σ xs G K := lcGo_pure (fun _ => .bl true) h (q _ (by simp) (by simp))
theorem zip_vals : ∀ {cs : List (Str × Bool)} {vs : List D}, valsOk cs vs → ∀ x ∈ zipD vs (cs.map colD), ∃ v c, c ∈ cs ∧ valOk c.2 v ∧ x = .tup [v, colD c]
  | [], [], _, x, h => by cases h
  | c :: cs, v :: vs, h, x, hx => by
    have e : zipD (v :: vs) ((c :: cs).map colD) = .tup [v, colD c] :: zipD vs (cs.map colD) := rfl
    rw [e] at hx
    rcases List.mem_cons.mp hx with rfl | hx
    · exact ⟨v, c, List.mem_cons_self, h.1, rfl⟩
    · obtain ⟨v', c', h1, h2, h3⟩ := zip_vals h.2 x hx
      exact ⟨v', c', List.mem_cons_of_mem _ h1, h2, h3⟩
  | [], _ :: _, h, _, _ => h.elim
  | _ :: _, [], h, _, _ => h.elim
def sd_are_values : SpD := tr fun ds => ∃ vs cs, ds = [.tup vs, .tup (cs.map colD)] ∧ valsOk cs vs
theorem r_are_values : Rd (b_are_values sd_is_tuple sd_is_of_kind) n_are_values sd_are_values := by
  rintro ds G Q ⟨⟨vs, cs, rfl, h⟩, q⟩
  have hl := valsOk_len h
  simp [b_are_values]
  refine ⟨⟨_, _, _, rfl, by omega, by omega⟩, ?_⟩
  simp
  refine lcGo_pure (fun _ => .bl true) (fun x hx Q' hq => ?_) ?_
  · obtain ⟨v, c, hc, hv, rfl⟩ := zip_vals h x hx
    simp [colD]
    exact ⟨⟨v, c.2, rfl, hv⟩, hq⟩
  · simpa using FgQ.of q
theorem atI0 {a b : D} : L2.atI [a, b] 0 = some a := rfl
theorem atI1 {a b : D} : L2.atI [a, b] 1 = some b := rfl
def sd_are_columns : SpD := tr fun ds => ∃ cs, ds = [.tup (cs.map colD)] ∧ ColsOk cs
theorem r_are_columns : Rd (b_are_columns sd_is_tuple sd_is_name sd_is_string sd_are_unlike) n_are_columns sd_are_columns := by
  rintro ds G Q ⟨⟨cs, rfl, h⟩, q⟩
  have hl := h.len
  simp [b_are_columns]
  refine ⟨⟨_, _, _, rfl, by simp, by simp; omega⟩, ?_⟩
  simp
  refine lcGo_all (fun x hx Q' hq => ?_) fun ds h1 h2 => ?_
  · obtain ⟨c, hc, rfl⟩ := List.mem_map.mp hx
    simp [colD]
    exact ⟨⟨_, _, _, rfl, by simp, by simp⟩, hq⟩
  refine ⟨h1, ?_⟩
  rw [if_neg h2]
  refine lcGo_all (fun x hx Q' hq => ?_) fun ds h1 h2 => ?_
  · obtain ⟨c, hc, rfl⟩ := List.mem_map.mp hx
    simp [colD, atI0, atI1]
    refine ⟨⟨_, rfl, names_ok _ (List.mem_append_right _ (h.nms c hc))⟩, ?_⟩
    simp [c_KINDS]
    exact ⟨⟨_, _, rfl, by simp, kinds_in _⟩, hq⟩
  refine ⟨h1, ?_⟩
  rw [if_neg h2]
  refine lcGo_pure (fun x => match x with | .tup (a :: _) => a | _ => .non) (fun x hx Q' hq => ?_) ?_
  · obtain ⟨c, hc, rfl⟩ := List.mem_map.mp hx
    simp [colD, atI0, atI1]
    simpa [colD] using hq
  refine ⟨⟨cs.map fun c => .inr c.1, ?_, ?_⟩, FgQ.of q⟩
  · rw [List.map_map, List.map_map]; rfl
  · have e : (cs.map fun c => (Sum.inr c.1 : Key)) = (cs.map (·.1)).map Sum.inr := by rw [List.map_map]; rfl
    rw [e, List.Nodup, List.pairwise_map]
    exact h.nd.imp fun {a b} z y => z (Sum.inr.inj y)
end K5

end
section
set_option maxHeartbeats 1000000
namespace K5
open PySem PySem.Spec PyProof.Rows L2 Dl Gk
def sd_is_schema : SpD := tr fun ds => ∃ S, ds = [scD S] ∧ SOk S
theorem r_is_schema : Rd (b_is_schema sd_is_tuple sd_is_name sd_are_columns sd_are_ascending) n_is_schema sd_is_schema := by
  rintro ds G Q ⟨⟨S, rfl, h⟩, q⟩
  have hl := h.len
  simp [b_is_schema, scD]
  refine ⟨⟨_, _, _, rfl, by simp, by simp; omega⟩, ?_⟩
  simp
  refine lcGo_all (fun x hx Q' hq => ?_) fun ds h1 h2 => ?_
  · obtain ⟨c, hc, rfl⟩ := List.mem_map.mp hx
    simp [tsD]
    exact ⟨⟨_, _, _, rfl, by simp, by simp⟩, hq⟩
  refine ⟨h1, ?_⟩
  rw [if_neg h2]
  refine lcGo_all (fun x hx Q' hq => ?_) fun ds h1 h2 => ?_
  · obtain ⟨c, hc, rfl⟩ := List.mem_map.mp hx
    simp [tsD, atI0, atI1]
    refine ⟨⟨_, rfl, names_ok _ (List.mem_append_left _ (h.ok c hc).nm)⟩, ?_⟩
    simp
    exact ⟨⟨_, rfl, (h.ok c hc).cs⟩, hq⟩
  refine ⟨h1, ?_⟩
  rw [if_neg h2]
  refine lcGo_pure (fun x => match x with | .tup (a :: _) => a | _ => .non) (fun x hx Q' hq => ?_) ?_
  · obtain ⟨c, hc, rfl⟩ := List.mem_map.mp hx
    simp [tsD, atI0, atI1]
    simpa [tsD] using hq
  refine ⟨⟨S.map fun c => .inr c.nm, ?_, ?_, ?_⟩, FgQ.of q⟩
  · rw [List.map_map, List.map_map]; rfl
  · rw [List.pairwise_map]; exact h.up
  · simp [oneKind]
def sd_are_rows : SpD := tr fun ds => ∃ (rw : List (Int × List D)) (cs : List (Str × Bool)), ds = [.tup (rw.map rowD), .tup (cs.map colD)] ∧ (∀ r ∈ rw, r.1 ∈ keys6 ∧ valsOk cs r.2) ∧ rw.Pairwise (fun a b => a.1 < b.1)
theorem keys_in : ∀ k ∈ keys6, 1 ≤ k ∧ k ≤ 999999 := by decide
theorem r_are_rows : Rd (b_are_rows sd_is_tuple sd_is_key sd_are_values sd_are_ascending) n_are_rows sd_are_rows := by
  rintro ds G Q ⟨⟨rw, cs, rfl, h, hp⟩, q⟩
  simp [b_are_rows]
  refine lcGo_all (fun x hx Q' hq => ?_) fun ds h1 h2 => ?_
  · obtain ⟨c, hc, rfl⟩ := List.mem_map.mp hx
    simp [rowD]
    exact ⟨⟨_, _, _, rfl, by simp, by simp⟩, hq⟩
  refine ⟨h1, ?_⟩
  rw [if_neg h2]
  refine lcGo_all (fun x hx Q' hq => ?_) fun ds h1 h2 => ?_
  · obtain ⟨c, hc, rfl⟩ := List.mem_map.mp hx
    obtain ⟨hk, hv⟩ := h c hc
    simp [rowD, atI0, atI1]
    refine ⟨⟨_, rfl, keys_in _ hk⟩, ?_⟩
    simp
    exact ⟨⟨_, _, rfl, hv⟩, hq⟩
  refine ⟨h1, ?_⟩
  rw [if_neg h2]
  refine lcGo_pure (fun x => match x with | .tup (a :: _) => a | _ => .non) (fun x hx Q' hq => ?_) ?_
  · obtain ⟨c, hc, rfl⟩ := List.mem_map.mp hx
    simp [rowD, atI0, atI1]
    simpa [rowD] using hq
  refine ⟨⟨rw.map fun c => .inl c.1, ?_, ?_, ?_⟩, FgQ.of q⟩
  · rw [List.map_map, List.map_map]; rfl
  · rw [List.pairwise_map]
    exact hp.imp fun {a b} z => decide_eq_true z
  · simp [oneKind]
theorem zip_map {α : Type} (f g : α → D) : ∀ l : List α, zipD (l.map f) (l.map g) = l.map fun a => .tup [f a, g a]
  | [] => rfl
  | a :: l => by
    have ih := zip_map f g l
    show D.tup [f a, g a] :: zipD (l.map f) (l.map g) = _
    rw [ih]; rfl
/-- a loop over a list of known items, each turn alike, nothing kept -/
theorem forGo_all {α : Type} {dg : DG} {db : DS} {Dd : DEnds} {f : α → D} (P : Sd → Prop) {G : Gp} (l : List α) (fin : ∀ σ, P σ → Dd.nx σ G)
    (step : ∀ a ∈ l, ∀ σ (N : Sd → Gp → Prop), P σ → (∀ σ', P σ' → N σ' G) → dg (f a) σ G fun σ1 G1 => db { Dd with nx := N, ct := N, bk := Dd.nx } σ1 G1) : ∀ σ, P σ → forGo dg db Dd (l.map f) σ G := by
  intro σ h
  refine forGo_inv (fun items σ' G' => G' = G ∧ P σ' ∧ ∃ r : List α, items = r.map f ∧ ∀ a ∈ r, a ∈ l) (fun σ' G' ⟨e, p, _⟩ => by subst e; exact fin σ' p) (fun x r σ' G' N ⟨e, p, r', er, hr⟩ hN => ?_) _ σ G ⟨rfl, h, l, rfl, fun _ h => h⟩
  subst e
  cases r' with
  | nil => cases er
  | cons a r' =>
    rw [List.map_cons] at er
    cases er
    exact step a (hr a List.mem_cons_self) σ' N p fun σ2 p2 => hN σ2 _ ⟨rfl, p2, r', rfl, fun b hb => hr b (List.mem_cons_of_mem _ hb)⟩
def sd_is_state : SpD := tr fun ds => ∃ S, ds = [scD S, stD S] ∧ SOk S
theorem in_one (s : Str) : inD (.str s) [.str s] = true := by simp [inD, toV, inV, eqV]
theorem r_is_state : Rd (b_is_state sd_is_tuple sd_is_string sd_are_rows) n_is_state sd_is_state := by
  rintro ds G Q ⟨⟨S, rfl, h⟩, q⟩
  simp [b_is_state, scD, stD]
  refine ⟨⟨_, _, _, rfl, by simp, by simp⟩, ?_⟩
  simp
  refine lcGo_all (fun x hx Q' hq => ?_) fun ds h1 h2 => ?_
  · obtain ⟨c, hc, rfl⟩ := List.mem_map.mp hx
    simp [tbD]
    exact ⟨⟨_, _, _, rfl, by simp, by simp⟩, hq⟩
  refine ⟨h1, ?_⟩
  rw [if_neg h2, zip_map]
  refine forGo_all (fun σ => ∃ a b c, σ = [some (scD S), some (stD S), a, b, c]) S (fun σ _ => ?_) (fun t ht σ N ⟨a, b, c, e⟩ hN => ?_) _ ⟨_, _, _, rfl⟩
  · simpa using FgQ.of q
  · subst e
    simp [tbD, tsD, atI0, atI1]
    refine ⟨⟨_, _, rfl, by simp, in_one _⟩, ?_⟩
    simp
    refine ⟨⟨_, _, rfl, (h.ok t ht).rw, h.rise t ht⟩, ?_⟩
    simp
    exact hN _ ⟨_, _, _, rfl⟩
end K5

end
section
set_option maxHeartbeats 1000000
namespace K5
open PySem PySem.Spec PyProof.Rows L2 Dl Gk
/-! ### rows under keys -/
def optD : Option (List D) → D
  | none => .non
  | some vs => .tup vs
abbrev Jn := List (Tb × Option (List D))
def krD (J : Jn) : D := .tup (J.map fun j => .tup [.str j.1.nm, optD j.2])
def KOk (J : Jn) : Prop := ∀ j ∈ J, ∀ vs, j.2 = some vs → valsOk j.1.cs vs
def sd_are_key_rows : SpD := tr fun ds => ∃ J : Jn, ds = [scD (J.map (·.1)), krD J] ∧ KOk J
theorem r_are_key_rows : Rd (b_are_key_rows sd_is_tuple sd_is_string sd_are_values) n_are_key_rows sd_are_key_rows := by
  rintro ds G Q ⟨⟨J, rfl, h⟩, q⟩
  simp [b_are_key_rows, scD, krD]
  refine ⟨⟨_, _, _, rfl, by simp, by simp⟩, ?_⟩
  simp
  refine lcGo_all (fun x hx Q' hq => ?_) fun ds h1 h2 => ?_
  · obtain ⟨c, hc, rfl⟩ := List.mem_map.mp hx
    simp
    exact ⟨⟨_, _, _, rfl, by simp, by simp⟩, hq⟩
  refine ⟨h1, ?_⟩
  rw [if_neg h2, zip_map]
  refine forGo_all (fun σ => ∃ x y a b c, σ = [x, y, a, b, c]) J (fun σ _ => ?_) (fun t ht σ N ⟨x, y, a, b, c, e⟩ hN => ?_) _ ⟨_, _, _, _, _, rfl⟩
  · simpa using FgQ.of q
  · subst e
    simp [tsD, atI0, atI1]
    refine ⟨⟨_, _, rfl, by simp, in_one _⟩, ?_⟩
    simp [atI1]
    cases e : t.2 with
    | none =>
      simp [optD]
      exact hN _ ⟨_, _, _, _, _, rfl⟩
    | some vs =>
      simp [optD]
      refine ⟨⟨_, _, rfl, h t ht vs e⟩, ?_⟩
      simp
      exact hN _ ⟨_, _, _, _, _, rfl⟩
def nn (P : List D → Prop) : SpD := fun ds G Q => P ds ∧ Q .non G
def sd_check_schema : SpD := nn fun ds => ∃ S, ds = [scD S] ∧ SOk S
theorem r_check_schema : Rd (b_check_schema sd_is_schema) n_check_schema sd_check_schema := by
  rintro ds G Q ⟨⟨S, rfl, h⟩, q⟩
  simp [b_check_schema]
  refine ⟨⟨S, rfl, h⟩, ?_⟩
  simpa using FgQ.of q
def sd_check_state : SpD := nn fun ds => ∃ S, ds = [scD S, stD S] ∧ SOk S
theorem r_check_state : Rd (b_check_state sd_is_state) n_check_state sd_check_state := by
  rintro ds G Q ⟨⟨S, rfl, h⟩, q⟩
  simp [b_check_state]
  refine ⟨⟨S, rfl, h⟩, ?_⟩
  simpa using FgQ.of q
def sd_check_key : SpD := nn fun ds => ∃ k, ds = [.int k] ∧ k ∈ keys6
theorem r_check_key : Rd (b_check_key sd_is_key) n_check_key sd_check_key := by
  rintro ds G Q ⟨⟨k, rfl, h⟩, q⟩
  simp [b_check_key]
  refine ⟨⟨k, rfl, keys_in k h⟩, ?_⟩
  simpa using FgQ.of q
def bare (t : Tb) : Tb := { t with rw := [] }
def sd_empty_state : SpD := fun ds G Q => ∃ S, ds = [scD S] ∧ SOk S ∧ Q (stD (S.map bare)) G
theorem r_empty_state : Rd (b_empty_state sd_check_schema) n_empty_state sd_empty_state := by
  rintro ds G Q ⟨S, rfl, h, q⟩
  simp [b_empty_state]
  refine ⟨⟨S, rfl, h⟩, ?_⟩
  simp [scD]
  refine lcGo_pure (fun x => match x with | .tup (a :: _) => .tup [a, .tup []] | _ => .non) (fun x hx Q' hq => ?_) ?_
  · obtain ⟨c, hc, rfl⟩ := List.mem_map.mp hx
    simp [tsD]
    simpa [tsD] using hq
  · simp
    have e : stD (S.map bare) = .tup (List.map ((fun x => match x with | .tup (a :: _) => D.tup [a, .tup []] | _ => .non) ∘ tsD) S) := by
      unfold stD
      rw [List.map_map]; rfl
    rw [e] at q
    exact FgQ.of q
/-! ### sorting by a key -/
theorem insBy_map {α β : Type} (f : β → Key) (g : α → β) (x : α) : ∀ l : List α, insBy f (g x) (l.map g) = (insBy (fun a => f (g a)) x l).map g
  | [] => rfl
  | y :: r => by
    have ih := insBy_map f g x r
    rw [List.map_cons]
    unfold insBy
    by_cases c : ltKey (f (g y)) (f (g x)) = true
    · rw [if_pos c, if_pos c, ih]; rfl
    · rw [if_neg c, if_neg c]; rfl
theorem srtBy_map {α β : Type} (f : β → Key) (g : α → β) : ∀ l : List α, srtBy f (l.map g) = (srtBy (fun a => f (g a)) l).map g
  | [] => rfl
  | x :: r => by
    show insBy f (g x) (srtBy f (r.map g)) = (insBy (fun a => f (g a)) x (srtBy (fun a => f (g a)) r)).map g
    rw [srtBy_map f g r, insBy_map]
theorem srt_id {α : Type} (f : α → Key) {l : List α} (h : l.Pairwise fun a b => ltKey (f a) (f b) = true) : srtBy f l = l := by
  symm
  refine srtBy_uniq f (h.imp fun {a b} q => ltKey_asym q) (.refl _) ?_
  refine inj_nodup f ?_
  rw [List.Nodup, List.pairwise_map]
  refine h.imp fun {a b} q e => ?_
  rw [e, ltKey_irr] at q
  cases q
abbrev Rows := List (Int × List D)
def rwK (rw : Rows) : List (Key × D) := rw.map fun r => (.inl r.1, .tup r.2)
def srtR (rw : Rows) : Rows := srtBy (fun r => .inl r.1) rw
theorem rwK_srt (rw : Rows) : srtBy (·.1) (rwK rw) = rwK (srtR rw) := srtBy_map (fun p : Key × D => p.1) (fun r : Int × List D => ((.inl r.1 : Key), D.tup r.2)) rw
theorem rwK_pair (rw : Rows) : (rwK rw).map Dl.pairD = rw.map rowD := by
  unfold rwK
  rw [List.map_map]; rfl
theorem rwK_keys (rw : Rows) : (rwK rw).map (·.1) = (rw.map (·.1)).map Sum.inl := by
  unfold rwK
  rw [List.map_map, List.map_map]; rfl
theorem rwK_one (rw : Rows) : oneKind ((rwK rw).map (·.1)) = true := by
  rw [rwK_keys]; simp [oneKind]
theorem nd_inl {l : List Int} (h : l.Nodup) : (l.map (Sum.inl : Int → Key)).Nodup := by
  rw [List.Nodup, List.pairwise_map]
  exact h.imp fun {a b} z y => z (Sum.inl.inj y)
theorem nd_inr {l : List Str} (h : l.Nodup) : (l.map (Sum.inr : Str → Key)).Nodup := by
  rw [List.Nodup, List.pairwise_map]
  exact h.imp fun {a b} z y => z (Sum.inr.inj y)
theorem rwK_nd {rw : Rows} (h : (rw.map (·.1)).Nodup) : ((rwK rw).map (·.1)).Nodup := by
  rw [rwK_keys]; exact nd_inl h
theorem val_mem {κ α : Type} [DecidableEq κ] : ∀ {l : List (κ × α)} {k : κ} {v : α}, (l.map (·.1)).Nodup → (k, v) ∈ l → valD l k = some v
  | [], k, v, _, h => by cases h
  | (k', v') :: l, k, v, nd, h => by
    rw [List.map_cons, List.nodup_cons] at nd
    rcases List.mem_cons.mp h with e | h
    · cases e
      simp [valD]
    · have ne : k' ≠ k := fun e => nd.1 (by rw [e]; exact List.mem_map_of_mem (f := (·.1)) h)
      have ih := val_mem nd.2 h
      unfold valD at ih ⊢
      rw [List.find?_cons_of_neg (by simpa using ne)]
      exact ih
theorem val_none {κ α : Type} [DecidableEq κ] {l : List (κ × α)} {k : κ} (h : k ∉ l.map (·.1)) : valD l k = none := by
  unfold valD
  rw [List.find?_eq_none.mpr fun p hp => by simpa using fun e => h (by rw [← e]; exact List.mem_map_of_mem hp)]
  rfl
theorem lcMap {α : Type} {dg : DG} {de : DE} {vs : List Nat} {σ : Sd} {G : Gp} (f g : α → D) : ∀ (l : List α) {Q : KDs}, (∀ a ∈ l, ∀ Q : KD, Q (g a) G → dg (f a) (wipeD σ vs) G fun σ1 G1 => de σ1 G1 Q) → Q (l.map g) G → lcGo dg dYes de vs σ (l.map f) G Q
  | [], Q, _, q => q
  | x :: r, Q, h, q => by
    show dg (f x) (wipeD σ vs) G fun σ1 G1 => dYes σ1 G1 fun b G2 => if b = true then de σ1 G2 fun y G3 => lcGo dg dYes de vs σ (r.map f) G3 fun ys G4 => Q (y :: ys) G4 else lcGo dg dYes de vs σ (r.map f) G2 Q
    exact h x List.mem_cons_self _ (lcMap f g r (fun y hy => h y (List.mem_cons_of_mem _ hy)) q)
theorem lcFilt {α : Type} {dg : DG} {dt : DT} {de : DE} {vs : List Nat} {σ : Sd} {G : Gp} (f g : α → D) (p : α → Bool) : ∀ (l : List α) {Q : KDs},
    (∀ a ∈ l, ∀ (Q : KD) (M : Gp → Prop), (p a = true → Q (g a) G) → (p a = false → M G) → dg (f a) (wipeD σ vs) G fun σ1 G1 => dt σ1 G1 fun b G2 => if b = true then de σ1 G2 Q else M G2) → Q ((l.filter p).map g) G → lcGo dg dt de vs σ (l.map f) G Q
  | [], Q, _, q => q
  | x :: r, Q, h, q => by
    refine h x List.mem_cons_self _ _ (fun e => ?_) fun e => ?_
    · refine lcFilt f g p r (fun y hy => h y (List.mem_cons_of_mem _ hy)) ?_
      rw [List.filter_cons_of_pos e] at q
      exact q
    · refine lcFilt f g p r (fun y hy => h y (List.mem_cons_of_mem _ hy)) ?_
      rw [List.filter_cons_of_neg (by rw [e]; exact Bool.false_ne_true)] at q
      exact q
/-! ### tables, by name -/
structure Lk where
  nm : Str
  ad : Addr
  rw : Rows
def refsD (L : List Lk) : D := .dic (L.map fun p => (.inr p.nm, .ref p.ad))
structure LkOk (L : List Lk) (G : Gp) : Prop where
  nm : (L.map (·.nm)).Nodup
  ad : (L.map (·.ad)).Nodup
  nd : ∀ p ∈ L, (p.rw.map (·.1)).Nodup
  at_ : ∀ p ∈ L, G p.ad = some (.dic (rwK p.rw))
theorem refs_val {L : List Lk} (h : (L.map (·.nm)).Nodup) {p : Lk} (hp : p ∈ L) : valD (L.map fun p => ((Sum.inr p.nm : Key), D.ref p.ad)) (.inr p.nm) = some (.ref p.ad) := by
  refine val_mem ?_ (List.mem_map.mpr ⟨p, hp, rfl⟩)
  rw [List.map_map]
  have e : ((fun x : Key × D => x.1) ∘ fun p : Lk => ((Sum.inr p.nm : Key), D.ref p.ad)) = Sum.inr ∘ (·.nm) := rfl
  rw [e, ← List.map_map]
  exact nd_inr h
def sd_state_of : SpD := fun ds G Q => ∃ L, ds = [refsD L] ∧ LkOk L G ∧ L.length < 64 ∧ L.Pairwise (fun a b => ltKey (.inr a.nm) (.inr b.nm) = true) ∧ Q (.tup (L.map fun p => .tup [.str p.nm, .tup ((srtR p.rw).map rowD)])) G
theorem r_state_of : Rd b_state_of n_state_of sd_state_of := by
  rintro ds G Q ⟨L, rfl, h, hl, hs, q⟩
  have e1 : (L.map fun p => ((Sum.inr p.nm : Key), D.ref p.ad)).map (·.1) = (L.map (·.nm)).map Sum.inr := by rw [List.map_map, List.map_map]; rfl
  have e2 : (srtBy id ((L.map (·.nm)).map Sum.inr : List Key)).map keyV = L.map fun p => D.str p.nm := by
    rw [srt_id id (by rw [List.pairwise_map, List.pairwise_map]; exact hs), List.map_map, List.map_map]; rfl
  simp only [b_state_of, refsD]
  simp [-List.map_map, e1, e2, hl]
  refine ⟨by simp [oneKind], ?_⟩
  refine lcMap (fun p => D.str p.nm) (fun p => .tup [.str p.nm, .tup ((srtR p.rw).map rowD)]) L (fun p hp Q' hq => ?_) ?_
  · have ev := refs_val h.nm hp
    simp [ev, h.at_ p hp]
    refine ⟨?_, ?_, ?_⟩
    · have := rwK_nd (h.nd p hp)
      simpa using this
    · have := rwK_one p.rw
      simpa using this
    · rw [rwK_srt, rwK_pair]
      exact hq
  · simpa using FgQ.of q
end K5

end
section
set_option maxHeartbeats 1000000
namespace K5
open PySem PySem.Spec PyProof.Rows L2 Dl Gk
theorem lcInv {dg : DG} {dt : DT} {de : DE} {vs : List Nat} {σ : Sd} {Q : KDs} {items : List D} {G : Gp} (Inv : List D → List D → Gp → Prop) (h : Inv items [] G) (fin : ∀ acc G, Inv [] acc G → Q acc G)
    (step : ∀ x r acc G (N : D → Gp → Prop) (M : Gp → Prop), Inv (x :: r) acc G → (∀ y G', Inv r (acc ++ [y]) G' → N y G') → (∀ G', Inv r acc G' → M G') → dg x (wipeD σ vs) G fun σ1 G1 => dt σ1 G1 fun b G2 => if b = true then de σ1 G2 N else M G2) : lcGo dg dt de vs σ items G Q :=
  lcGo_inv (Q := Q) Inv fin step items [] G h
theorem dict_rows {rw : Rows} (h : (rw.map (·.1)).Nodup) : pairsD (rw.map rowD) = some (rwK rw) ∧ mergeD [] (rwK rw) = rwK rw :=
  ⟨pairs_key (fun r : Int × List D => (Sum.inl r.1 : Key)) (fun r => .tup r.2) rw, merge_nil (rwK_nd h)⟩
def nr (t : Tb) : Str × Rows := (t.nm, t.rw)
def lr (p : Lk) : Str × Rows := (p.nm, p.rw)
def sd_tables_in : SpD := fun ds G Q => ∃ S, ds = [stD S] ∧ (S.map (·.nm)).Nodup ∧ (∀ t ∈ S, (t.rw.map (·.1)).Nodup) ∧
  ∀ L G', L.map lr = S.map nr → LkOk L G' → (∀ p ∈ L, G p.ad = none) → (∀ b, b ∉ L.map (·.ad) → G' b = G b) → Q (refsD L) G'
theorem names_of {L : List Lk} {S : List Tb} (h : L.map lr = S.map nr) : L.map (·.nm) = S.map (·.nm) := by
  have e := congrArg (List.map Prod.fst) h
  rw [List.map_map, List.map_map] at e
  exact e
theorem r_tables_in : Rd b_tables_in n_tables_in sd_tables_in := by
  rintro ds G Q ⟨S, rfl, h1, h2, q⟩
  simp [b_tables_in, stD]
  refine lcInv (fun items acc G' => ∃ (d : List Lk) (r : List Tb), items = r.map tbD ∧ acc = d.map (fun p => .tup [.str p.nm, .ref p.ad]) ∧ d.map lr ++ r.map nr = S.map nr ∧ (∀ t ∈ r, t ∈ S) ∧ (d.map Lk.ad).Nodup ∧
      (∀ p ∈ d, G p.ad = none ∧ G' p.ad = some (.dic (rwK p.rw)) ∧ (p.rw.map (fun r : Int × List D => r.1)).Nodup) ∧ ∀ b, b ∉ d.map Lk.ad → G' b = G b) ⟨[], S, rfl, rfl, rfl, fun t h => h, List.Pairwise.nil, (fun p (h : p ∈ ([] : List Lk)) => by cases h), fun b _ => rfl⟩ ?_ ?_
  · rintro acc G' ⟨d, r, e1, rfl, e2, _, e3, e4, e5⟩
    have er : r = [] := List.map_eq_nil_iff.mp e1.symm
    subst er
    rw [List.map_nil, List.append_nil] at e2
    have nm : (d.map (·.nm)).Nodup := by rw [names_of e2]; exact h1

    refine ⟨_, pairs_key (fun p : Lk => (Sum.inr p.nm : Key)) (fun p => .ref p.ad) d, ?_⟩
    have nk : ((d.map fun p : Lk => ((Sum.inr p.nm : Key), D.ref p.ad)).map (·.1)).Nodup := by
      rw [List.map_map]
      have e : ((fun x : Key × D => x.1) ∘ fun p : Lk => ((Sum.inr p.nm : Key), D.ref p.ad)) = Sum.inr ∘ (·.nm) := rfl
      rw [e, ← List.map_map]
      exact nd_inr nm
    rw [merge_nil nk]
    exact FgQ.of (q d G' e2 ⟨nm, e3, fun p hp => (e4 p hp).2.2, fun p hp => (e4 p hp).2.1⟩ (fun p hp => (e4 p hp).1) e5)
  · rintro x r acc G' N M ⟨d, r', e1, rfl, e2, e0, e3, e4, e5⟩ hN hM
    cases r' with
    | nil => cases e1
    | cons t r' =>
      rw [List.map_cons] at e1
      cases e1
      have ht := e0 t List.mem_cons_self
      obtain ⟨p1, p2⟩ := dict_rows (h2 t ht)
      simp [tbD]
      refine ⟨_, p1, ?_⟩
      rw [p2]
      intro p hp
      have hpn : p ∉ d.map (·.ad) := fun z => by
        obtain ⟨y, hy, ey⟩ := List.mem_map.mp z
        have := (e4 y hy).2.1
        rw [ey, hp] at this
        cases this
      have hpg : G p = none := by rw [← e5 p hpn]; exact hp
      refine hN _ _ ⟨d ++ [⟨t.nm, p, t.rw⟩], r', rfl, by simp, ?_, fun u hu => e0 u (List.mem_cons_of_mem _ hu), ?_, ?_, ?_⟩
      · rw [List.map_append, List.append_assoc]
        exact e2
      · rw [List.map_append]
        refine List.nodup_append.mpr ⟨e3, by simp, fun a ha b hb => ?_⟩
        simp at hb
        subst hb
        exact fun e => hpn (by rw [← e]; exact ha)
      · intro y hy
        rcases List.mem_append.mp hy with hy | hy
        · obtain ⟨z1, z2, z3⟩ := e4 y hy
          refine ⟨z1, ?_, z3⟩
          rw [updG_ne (fun e => hpn (by rw [← e]; exact List.mem_map_of_mem hy))]
          exact z2
        · simp at hy
          subst hy
          exact ⟨hpg, updG_same, h2 t ht⟩
      · intro b hb
        simp at hb
        rw [updG_ne hb.2]
        exact e5 b (by simpa using hb.1)
/-! ### one table's rows changed -/
def newRw (k : Int) : Option (List D) → Rows → Rows
  | none, rw => rw.filter fun r => decide (r.1 ≠ k)
  | some vs, rw => (rw.filter fun r => decide (r.1 ≠ k)) ++ [(k, vs)]
theorem drop_rwK (k : Int) (rw : Rows) : dropD (rwK rw) (.inl k) = rwK (rw.filter fun r => decide (r.1 ≠ k)) := by
  unfold dropD rwK
  rw [List.filter_map]
  congr 1
  refine List.filter_congr fun r _ => ?_
  show decide ((Sum.inl r.1 : Key) ≠ .inl k) = decide (r.1 ≠ k)
  by_cases e : r.1 = k
  · simp [e]
  · simp [e]
theorem val_rwK (k : Int) : ∀ rw : Rows, valD (rwK rw) (.inl k) = ((rw.find? fun r => decide (r.1 = k)).map fun r => D.tup r.2)
  | [] => rfl
  | r :: rw => by
    have ih := val_rwK k rw
    unfold valD rwK at ih ⊢
    rw [List.map_cons]
    by_cases e : r.1 = k
    · rw [List.find?_cons_of_pos (by simp [e]), List.find?_cons_of_pos (by simp [e])]; rfl
    · rw [List.find?_cons_of_neg (by simp [e]), List.find?_cons_of_neg (by simp [e])]
      exact ih
theorem no_key {k : Int} {rw : Rows} (h : valD (rwK rw) (.inl k) = none) : (rw.filter fun r => decide (r.1 ≠ k)) = rw := by
  rw [val_rwK, Option.map_eq_none_iff, List.find?_eq_none] at h
  refine List.filter_eq_self.mpr fun r hr => ?_
  simpa using h r hr
theorem put_rwK {k : Int} {vs : List D} (rw : Rows) : putD (rwK (rw.filter fun r => decide (r.1 ≠ k))) (.inl k) (.tup vs) = rwK ((rw.filter fun r => decide (r.1 ≠ k)) ++ [(k, vs)]) := by
  rw [putD_new]
  · unfold rwK; rw [List.map_append]; rfl
  · intro h
    rw [rwK_keys] at h
    obtain ⟨j, hj, e⟩ := List.mem_map.mp h
    obtain ⟨r, hr, er⟩ := List.mem_map.mp hj
    have := (List.mem_filter.mp hr).2
    have e' : j = k := Sum.inl.inj e
    simp at this
    exact this (er.trans e')
theorem newRw_nd {k : Int} {o : Option (List D)} {rw : Rows} (h : (rw.map (·.1)).Nodup) : ((newRw k o rw).map (·.1)).Nodup := by
  have hf : ((rw.filter fun r => decide (r.1 ≠ k)).map (·.1)).Nodup := h.sublist (List.Sublist.map _ (List.filter_sublist ..))
  cases o with
  | none => exact hf
  | some vs =>
    show (((rw.filter fun r => decide (r.1 ≠ k)) ++ [(k, vs)]).map (·.1)).Nodup
    rw [List.map_append]
    refine List.nodup_append.mpr ⟨hf, by simp, fun a ha b hb e => ?_⟩
    simp at hb
    obtain ⟨r, hr, er⟩ := List.mem_map.mp ha
    have := (List.mem_filter.mp hr).2
    simp at this
    exact this (er.trans (e.trans hb))
def updT (k : Int) (j : Tb × Option (List D)) : Tb := { j.1 with rw := srtR (newRw k j.2 j.1.rw) }
/-- tables[t].pop(k, None); if v is not None: tables[t][k] = v -/
theorem pop_put {G : Gp} {a : Addr} {rw : Rows} {k : Int} {o : Option (List D)} (hG : G a = some (.dic (rwK rw))) (hl : rw.length < 64) :
    ∃ G1, (∀ b, b ≠ a → G1 b = G b) ∧ G1 a = some (.dic (rwK (rw.filter fun r => decide (r.1 ≠ k)))) ∧ (G1 = updG G a (.dic (dropD (rwK rw) (.inl k))) ∨ (valD (rwK rw) (.inl k) = none ∧ G1 = G)) := by
  cases e : valD (rwK rw) (.inl k) with
  | none => exact ⟨G, fun _ _ => rfl, by rw [no_key e]; exact hG, .inr ⟨rfl, rfl⟩⟩
  | some v => exact ⟨updG G a (.dic (dropD (rwK rw) (.inl k))), fun b hb => updG_ne hb, by rw [updG_same, drop_rwK], .inl rfl⟩
end K5

end
section
set_option maxHeartbeats 1000000
namespace K5
open PySem PySem.Spec PyProof.Rows L2 Dl Gk
abbrev Kp := (Tb × Option (List D)) × Lk
theorem zip_facts {J : Jn} {L : List Lk} (h : L.map lr = (J.map (·.1)).map nr) : (J.zip L).map (·.1) = J ∧ (J.zip L).map (·.2) = L ∧ ∀ k ∈ J.zip L, k.2.nm = k.1.1.nm ∧ k.2.rw = k.1.1.rw := by
  have hl : L.length = J.length := by
    have e := congrArg List.length h
    simpa using e
  refine ⟨List.map_fst_zip (by omega), List.map_snd_zip (by omega), fun k hk => ?_⟩
  obtain ⟨i, hi⟩ := List.mem_iff_getElem?.mp hk
  obtain ⟨h1, h2⟩ := List.getElem?_zip_eq_some.mp hi
  have e := congrArg (fun l => l[i]?) h
  simp only [List.getElem?_map, h1, h2, Option.map_some] at e
  have e' := Option.some.inj e
  exact ⟨congrArg Prod.fst e', congrArg Prod.snd e'⟩
theorem zip_ex {J : Jn} {L : List Lk} (h : L.map lr = (J.map (·.1)).map nr) : ∃ K : List Kp, K.map (·.1) = J ∧ K.map (·.2) = L ∧ ∀ k ∈ K, k.2.nm = k.1.1.nm ∧ k.2.rw = k.1.1.rw := ⟨_, zip_facts h⟩
def sd_state_with : SpD := fun ds G Q => ∃ (J : Jn) (k : Int), ds = [stD (J.map (·.1)), .int k, krD J] ∧ SOk (J.map (·.1)) ∧ Q (stD (J.map (updT k))) G
def newL (key : Int) (k : Kp) : Lk := { k.2 with rw := newRw key k.1.2 k.2.rw }
theorem r_state_with : Rd (b_state_with sd_tables_in sd_state_of) n_state_with sd_state_with := by
  rintro ds G Q ⟨J, key, rfl, h, q⟩
  simp only [b_state_with]
  simp [-List.map_map]
  refine ⟨_, rfl, h.nd, fun t ht => (h.ok t ht).nd, fun L G0 e1 ok fr ot => ?_⟩
  obtain ⟨K, rfl, rfl, z3⟩ := zip_ex e1
  have hk2 : ∀ k ∈ K, k.2 ∈ K.map (·.2) := fun k hk => List.mem_map_of_mem hk
  have adnd : (K.map fun k => k.2.ad).Nodup := by
    have := ok.ad
    rw [List.map_map] at this
    exact this
  have kz : krD (K.map (·.1)) = .tup (K.map fun k => D.tup [.str k.1.1.nm, optD k.1.2]) := by
    unfold krD
    rw [List.map_map]; rfl
  rw [kz]
  simp [-List.map_map]
  refine forGo_inv (fun items σ G' => ∃ d r : List Kp, K = d ++ r ∧ items = r.map (fun k => D.tup [.str k.1.1.nm, optD k.1.2]) ∧ (∃ a b x y, σ = [a, some (.int key), b, some (refsD (K.map (·.2))), x, y]) ∧
      (∀ k ∈ d, G' k.2.ad = some (.dic (rwK (newRw key k.1.2 k.2.rw)))) ∧ (∀ k ∈ r, G' k.2.ad = some (.dic (rwK k.2.rw))) ∧ ∀ b, b ∉ K.map (fun k => k.2.ad) → G' b = G0 b) ?_ ?_ _ _ G0
      ⟨[], K, rfl, rfl, ⟨_, _, _, _, rfl⟩, (fun k (hk : k ∈ ([] : List Kp)) => by cases hk), fun k hk => ok.at_ _ (hk2 k hk), fun b _ => rfl⟩
  · rintro σ G' ⟨d, r, e2, e3, ⟨a, b, x, y, rfl⟩, f1, f2, f3⟩
    have er : r = [] := List.map_eq_nil_iff.mp e3.symm
    subst er
    rw [List.append_nil] at e2
    subst e2
    simp [-List.map_map]
    refine ⟨K.map (newL key), ?_, ⟨?_, ?_, ?_, ?_⟩, ?_, ?_, ?_⟩
    · unfold refsD
      rw [List.map_map, List.map_map]; rfl
    · rw [List.map_map]
      have := ok.nm
      rw [List.map_map] at this
      exact this
    · rw [List.map_map]; exact adnd
    · intro p hp
      obtain ⟨k, hk, rfl⟩ := List.mem_map.mp hp
      exact newRw_nd (ok.nd _ (hk2 k hk))
    · intro p hp
      obtain ⟨k, hk, rfl⟩ := List.mem_map.mp hp
      exact f1 k hk
    · have := h.len
      rw [List.length_map, List.length_map] at this
      rw [List.length_map]
      omega
    · rw [List.pairwise_map]
      have u := h.up
      rw [List.map_map, List.pairwise_map] at u
      refine u.imp_of_mem fun {a b} ha hb w => ?_
      show ltKey (.inr a.2.nm) (.inr b.2.nm) = true
      rw [(z3 a ha).1, (z3 b hb).1]
      exact w
    · refine ⟨G, fun a m e => ?_, ?_⟩
      · have ha : a ∉ K.map (fun k => k.2.ad) := fun z => by
          obtain ⟨k, hk, rfl⟩ := List.mem_map.mp z
          rw [fr _ (hk2 k hk)] at e; cases e
        have ha2 : a ∉ (K.map (·.2)).map (·.ad) := by rw [List.map_map]; exact ha
        rw [f3 a ha, ot a ha2]; exact e
      · have e : stD ((K.map (·.1)).map (updT key)) = .tup (List.map (fun p : Lk => D.tup [.str p.nm, .tup ((srtR p.rw).map rowD)]) (K.map (newL key))) := by
          unfold stD
          rw [List.map_map, List.map_map, List.map_map]
          congr 1
          refine List.map_congr_left fun k hk => ?_
          show D.tup [.str k.1.1.nm, .tup ((srtR (newRw key k.1.2 k.1.1.rw)).map rowD)] = D.tup [.str k.2.nm, .tup ((srtR (newRw key k.1.2 k.2.rw)).map rowD)]
          rw [(z3 k hk).1, (z3 k hk).2]
        rw [← e]
        exact q
  · rintro x r σ G' N ⟨d, r', e2, e3, ⟨a, b, x', y', rfl⟩, f1, f2, f3⟩ hN
    cases r' with
    | nil => cases e3
    | cons k r' =>
      rw [List.map_cons] at e3
      cases e3
      have hk : k ∈ K := by rw [e2]; exact List.mem_append_right _ List.mem_cons_self
      have ev := refs_val ok.nm (hk2 k hk)
      rw [(z3 k hk).1] at ev
      have hG := f2 k List.mem_cons_self
      have hlen : k.2.rw.length ≤ 6 := by
        rw [(z3 k hk).2]
        exact (h.ok _ (List.mem_map_of_mem (List.mem_map_of_mem hk))).len
      have nd2 := adnd
      rw [e2, List.map_append, List.map_cons] at nd2
      have hd' : ∀ p ∈ d, p.2.ad ≠ k.2.ad := fun p hp e => (List.nodup_append.mp nd2).2.2 _ (List.mem_map_of_mem hp) _ List.mem_cons_self e
      have hr' : ∀ p ∈ r', p.2.ad ≠ k.2.ad := fun p hp e => (List.nodup_cons.mp (List.nodup_append.mp nd2).2.1).1 (by rw [← e]; exact List.mem_map_of_mem hp)
      -- after both
      have fin : ∀ G2 : Gp, (∀ b, b ≠ k.2.ad → G2 b = G' b) → G2 k.2.ad = some (.dic (rwK (newRw key k.1.2 k.2.rw))) → ∀ u v, N [a, some (.int key), b, some (refsD (K.map (·.2))), u, v] G2 := fun G2 o1 o2 u v => by
        refine hN _ _ ⟨d ++ [k], r', by rw [e2, List.append_assoc]; rfl, rfl, ⟨_, _, _, _, rfl⟩, fun p hp => ?_, fun p hp => ?_, fun c hc => ?_⟩
        · rcases List.mem_append.mp hp with hp | hp
          · rw [o1 _ (hd' p hp)]; exact f1 p hp
          · simp at hp
            subst hp; exact o2
        · rw [o1 _ (hr' p hp)]; exact f2 p (List.mem_cons_of_mem _ hp)
        · rw [o1 _ fun e => hc (by rw [e]; exact List.mem_map_of_mem (f := fun k : Kp => k.2.ad) hk)]
          exact f3 c hc
      have tail : ∀ G1 : Gp, (∀ b, b ≠ k.2.ad → G1 b = G' b) → G1 k.2.ad = some (.dic (rwK (k.2.rw.filter fun r => decide (r.1 ≠ key)))) →
          if isNonD (optD k.1.2) = true then N [a, some (.int key), b, some (refsD (K.map (·.2))), some (.str k.1.1.nm), some (optD k.1.2)] G1
          else (rwK (k.2.rw.filter fun r => decide (r.1 ≠ key))).length < 100000 ∧ N [a, some (.int key), b, some (refsD (K.map (·.2))), some (.str k.1.1.nm), some (optD k.1.2)] (updG G1 k.2.ad (.dic (putD (rwK (k.2.rw.filter fun r => decide (r.1 ≠ key))) (.inl key) (optD k.1.2)))) := fun G1 o1 o2 => by
        cases eo : k.1.2 with
        | none =>
          rw [if_pos (show isNonD (optD none) = true from rfl)]
          refine fin G1 o1 ?_ _ _
          rw [o2, eo]; rfl
        | some vs =>
          rw [if_neg (show ¬ isNonD (optD (some vs)) = true from Bool.false_ne_true)]
          refine ⟨?_, ?_⟩
          · have := List.length_filter_le (fun r : Int × List D => decide (r.1 ≠ key)) k.2.rw
            unfold rwK
            rw [List.length_map]; omega
          · show N _ (updG G1 k.2.ad (.dic (putD (rwK (k.2.rw.filter fun r => decide (r.1 ≠ key))) (.inl key) (.tup vs))))
            rw [put_rwK]
            refine fin _ (fun c hc => by rw [updG_ne hc]; exact o1 c hc) ?_ _ _
            rw [updG_same, eo]; rfl
      simp [refsD, -List.map_map, ev, hG]
      cases e : valD (rwK k.2.rw) (.inl key) with
      | none =>
        have nk := no_key e
        have tt := tail G' (fun _ _ => rfl) (by rw [nk]; exact hG)
        rw [nk] at tt
        exact tt
      | some v =>
        have tt := tail (updG G' k.2.ad (.dic (dropD (rwK k.2.rw) (.inl key)))) (fun c hc => updG_ne hc) (by rw [updG_same, drop_rwK])
        rw [← drop_rwK] at tt
        exact tt
end K5

end
section
set_option maxHeartbeats 1000000
namespace K5
open PySem PySem.Spec PyProof.Rows L2 Dl Gk
def sd_with_key_rows : SpD := fun ds G Q => ∃ (J : Jn) (k : Int), ds = [scD (J.map (·.1)), stD (J.map (·.1)), .int k, krD J] ∧ SOk (J.map (·.1)) ∧ KOk J ∧ k ∈ keys6 ∧ Q (stD (J.map (updT k))) G
theorem r_with_key_rows : Rd (b_with_key_rows sd_check_schema sd_check_state sd_check_key sd_are_key_rows sd_state_with) n_with_key_rows sd_with_key_rows := by
  rintro ds G Q ⟨J, k, rfl, h, hk, hkey, q⟩
  simp only [b_with_key_rows]
  simp [-List.map_map]
  refine ⟨⟨_, rfl, h⟩, ⟨_, rfl, h⟩, ⟨_, rfl, hkey⟩, ⟨_, rfl, hk⟩, ?_⟩
  simp [-List.map_map]
  exact ⟨J, k, rfl, h, FgQ.of q⟩
def look (k : Int) (rw : Rows) : Option (List D) := (rw.find? fun r => decide (r.1 = k)).map (·.2)
theorem look_val (k : Int) (rw : Rows) : (valD (rwK rw) (.inl k)).getD .non = optD (look k rw) := by
  rw [val_rwK]
  unfold look
  cases rw.find? (fun r => decide (r.1 = k)) <;> rfl
def under (k : Int) (S : List Tb) : Jn := S.map fun t => (t, look k t.rw)
theorem under_fst (k : Int) (S : List Tb) : (under k S).map (·.1) = S := by
  unfold under
  rw [List.map_map]
  exact List.map_id S
def sd_rows_under : SpD := fun ds G Q => ∃ S k, ds = [stD S, .int k] ∧ (∀ t ∈ S, (t.rw.map (·.1)).Nodup) ∧ Q (krD (under k S)) G
theorem r_rows_under : Rd b_rows_under n_rows_under sd_rows_under := by
  rintro ds G Q ⟨S, k, rfl, h, q⟩
  simp [b_rows_under, stD]
  refine lcMap tbD (fun t => .tup [.str t.nm, optD (look k t.rw)]) S (fun t ht Q' hq => ?_) ?_
  · obtain ⟨p1, p2⟩ := dict_rows (h t ht)
    simp [tbD]
    refine ⟨_, p1, ?_⟩
    rw [p2, look_val]
    exact hq
  · have e : krD (under k S) = .tup (S.map fun t => .tup [.str t.nm, optD (look k t.rw)]) := by
      unfold krD under
      rw [List.map_map]; rfl
    rw [e] at q
    simpa using FgQ.of q
def sd_key_rows : SpD := fun ds G Q => ∃ S k, ds = [stD S, .int k] ∧ k ∈ keys6 ∧ (∀ t ∈ S, (t.rw.map (·.1)).Nodup) ∧ Q (krD (under k S)) G
theorem r_key_rows : Rd (b_key_rows sd_check_key sd_rows_under) n_key_rows sd_key_rows := by
  rintro ds G Q ⟨S, k, rfl, hk, h, q⟩
  simp [b_key_rows]
  exact ⟨⟨_, rfl, hk⟩, _, _, rfl, h, FgQ.of q⟩
/-! ### plainness -/
theorem plain_val {b : Bool} {v : D} (h : valOk b v) (n : Nat) : Dl.plain n v = true := by
  rcases h with rfl | ⟨_, i, rfl, _⟩ | ⟨_, s, _, rfl⟩ <;> cases n <;> rfl
theorem plain_vals {cs : List (Str × Bool)} {vs : List D} (h : valsOk cs vs) (n : Nat) : vs.all (Dl.plain n) = true := by
  induction vs generalizing cs with
  | nil => rfl
  | cons v vs ih =>
    cases cs with
    | nil => exact h.elim
    | cons c cs => rw [List.all_cons, plain_val h.1, ih h.2]; rfl
theorem plain_row {cs : List (Str × Bool)} {r : Int × List D} (h : valsOk cs r.2) (n : Nat) : Dl.plain (n + 2) (rowD r) = true := by
  show ([D.int r.1, D.tup r.2].all (Dl.plain (n + 1))) = true
  have e : Dl.plain (n + 1) (.tup r.2) = true := plain_vals h n
  rw [List.all_cons, List.all_cons, e]; rfl
theorem plain_rows {cs : List (Str × Bool)} {rw : Rows} (h : ∀ r ∈ rw, valsOk cs r.2) (n : Nat) : Dl.plain (n + 3) (.tup (rw.map rowD)) = true := by
  show (rw.map rowD).all (Dl.plain (n + 2)) = true
  rw [List.all_eq_true]
  intro x hx
  obtain ⟨r, hr, rfl⟩ := List.mem_map.mp hx
  exact plain_row (h r hr) n
theorem filter_one {S : List Tb} (h : (S.map (·.nm)).Nodup) {t : Tb} (ht : t ∈ S) : (S.filter fun u => decide (u.nm = t.nm)) = [t] := by
  induction S with
  | nil => cases ht
  | cons s S ih =>
    rw [List.map_cons, List.nodup_cons] at h
    rcases List.mem_cons.mp ht with e | ht
    · subst e
      rw [List.filter_cons_of_pos (by simp), List.filter_eq_nil_iff.mpr fun u hu z => h.1 (by rw [← of_decide_eq_true z]; exact List.mem_map_of_mem hu)]
    · have ne : s.nm ≠ t.nm := fun e => h.1 (by rw [e]; exact List.mem_map_of_mem ht)
      rw [List.filter_cons_of_neg (by simpa using ne)]
      exact ih h.2 ht
theorem eqv_str (a b : Str) : eqvD (.str a) (.str b) = decide (a = b) := by
  show (a == b) = decide (a = b)
  rw [Bool.eq_iff_iff]; simp
def sd_row_in : SpD := fun ds G Q => ∃ S t k, ds = [stD S, .str t.nm, .int k] ∧ SOk S ∧ t ∈ S ∧ k ∈ keys6 ∧ Q (optD (look k t.rw)) G
theorem r_row_in : Rd (b_row_in sd_check_key) n_row_in sd_row_in := by
  rintro ds G Q ⟨S, t, k, rfl, h, ht, hk, q⟩
  simp [b_row_in, stD]
  refine lcFilt tbD (fun u => .tup (u.rw.map rowD)) (fun u => decide (u.nm = t.nm)) S (fun u hu Q' M hq hm => ?_) ?_
  · simp [tbD, Dl.plain, eqv_str]
    by_cases e : u.nm = t.nm
    · rw [if_pos e]; exact hq (decide_eq_true e)
    · rw [if_neg e]; exact hm (decide_eq_false e)
  · rw [filter_one h.nd ht]
    have pl := plain_rows (n := 56) fun r hr => ((h.ok t ht).rw r hr).2
    have e0 : eqvD (.lst [.tup (t.rw.map rowD)]) (.lst []) = false := rfl
    have e1 : Dl.plain 60 (.lst [.tup (t.rw.map rowD)]) = true := by
      show ([D.tup (t.rw.map rowD)].all (Dl.plain 59)) = true
      rw [List.all_cons, pl]; rfl
    have e2 : Dl.plain 60 (.lst []) = true := rfl
    have e3 : L2.atI [D.tup (t.rw.map rowD)] 0 = some (.tup (t.rw.map rowD)) := rfl
    obtain ⟨p1, p2⟩ := dict_rows (h.ok t ht).nd
    simp [e0, e1, e2, e3]
    refine ⟨⟨_, rfl, hk⟩, _, p1, ?_⟩
    rw [p2, look_val]
    exact FgQ.of q
/-! ### all keys -/
def addk (ks : List Int) (k : Int) : List Int := if k ∈ ks then ks else ks ++ [k]
def allk (S : List Tb) : List Int := (S.flatMap fun t => t.rw.map (·.1)).foldl addk []
def foundD (ks : List Int) : List (Key × D) := ks.map fun k => (.inl k, .bl true)
theorem put_found (ks : List Int) (k : Int) : putD (foundD ks) (.inl k) (.bl true) = foundD (addk ks k) := by
  unfold addk
  by_cases h : k ∈ ks
  · rw [if_pos h]
    unfold putD
    rw [if_pos]
    · unfold foundD
      rw [List.map_map]
      refine List.map_congr_left fun j hj => ?_
      show (if (Sum.inl j : Key) = .inl k then ((Sum.inl j : Key), D.bl true) else (.inl j, .bl true)) = _
      split <;> rfl
    · rw [List.any_eq_true]
      exact ⟨_, List.mem_map.mpr ⟨k, h, rfl⟩, by simp⟩
  · rw [if_neg h, putD_new]
    · unfold foundD; rw [List.map_append]; rfl
    · intro z
      unfold foundD at z
      rw [List.map_map] at z
      obtain ⟨j, hj, e⟩ := List.mem_map.mp z
      have e' : j = k := Sum.inl.inj e
      exact h (by rw [← e']; exact hj)
theorem addk_mem {ks : List Int} {k j : Int} : j ∈ addk ks k ↔ j ∈ ks ∨ j = k := by
  unfold addk
  by_cases h : k ∈ ks
  · rw [if_pos h]
    exact ⟨.inl, fun z => z.elim id fun e => by rw [e]; exact h⟩
  · rw [if_neg h]; simp
theorem addk_nd {ks : List Int} {k : Int} (h : ks.Nodup) : (addk ks k).Nodup := by
  unfold addk
  by_cases hk : k ∈ ks
  · rw [if_pos hk]; exact h
  · rw [if_neg hk]
    exact List.nodup_append.mpr ⟨h, by simp, fun a ha b hb e => by simp at hb; exact hk (by rw [← hb, ← e]; exact ha)⟩
theorem fold_nd : ∀ (l ks : List Int), ks.Nodup → (l.foldl addk ks).Nodup
  | [], _, h => h
  | x :: l, ks, h => fold_nd l _ (addk_nd h)
theorem fold_mem : ∀ (l ks : List Int) (j : Int), j ∈ l.foldl addk ks ↔ j ∈ ks ∨ j ∈ l
  | [], ks, j => by simp
  | x :: l, ks, j => by
    rw [List.foldl_cons, fold_mem l, addk_mem, List.mem_cons, or_assoc]
theorem allk_nd (S : List Tb) : (allk S).Nodup := fold_nd _ _ List.Pairwise.nil
theorem allk_mem (S : List Tb) (j : Int) : j ∈ allk S ↔ ∃ t ∈ S, j ∈ t.rw.map (·.1) := by
  unfold allk
  rw [fold_mem]
  simp
def sd_keys_of : SpD := fun ds G Q => ∃ S, ds = [stD S] ∧ (∀ t ∈ S, ∀ r ∈ t.rw, r.1 ∈ keys6) ∧ Q (.tup ((srtBy Sum.inl (allk S)).map D.int)) G
theorem r_keys_of : Rd b_keys_of n_keys_of sd_keys_of := by
  rintro ds G Q ⟨S, rfl, h, q⟩
  simp [b_keys_of, stD]
  intro p hp
  refine forGo_inv (fun items σ G' => ∃ (d r : List Tb) (ks : List Int), S = d ++ r ∧ items = r.map tbD ∧ (∃ s x y z w, σ = [s, some (.ref p), x, y, z, w]) ∧ ks = (d.flatMap fun t => t.rw.map (·.1)).foldl addk [] ∧ G' = updG G p (.dic (foundD ks))) ?_ ?_ _ _ _ ⟨[], S, [], rfl, rfl, ⟨_, _, _, _, _, rfl⟩, rfl, rfl⟩
  · rintro σ G' ⟨d, r, ks, e1, e2, ⟨s, x, y, z, w, rfl⟩, e3, rfl⟩
    have er : r = [] := List.map_eq_nil_iff.mp e2.symm
    subst er
    rw [List.append_nil] at e1
    subst e1
    have ek : ks = allk S := e3
    have e4 : (foundD ks).map (·.1) = ks.map Sum.inl := by unfold foundD; rw [List.map_map]; rfl
    have hl : ks.length ≤ 6 := by
      have := nodup_le (l := ks) (m := keys6) (by rw [ek]; exact allk_nd S) fun j hj => by
        rw [ek, allk_mem] at hj
        obtain ⟨t, ht, hj⟩ := hj
        obtain ⟨r, hr, rfl⟩ := List.mem_map.mp hj
        exact h t ht r hr
      exact this
    have hl2 : (foundD ks).length < 64 := by unfold foundD; rw [List.length_map]; omega
    simp [-List.map_map, e4, hl2]
    refine ⟨by simp [oneKind], G, fun a m e => ?_, ?_⟩
    · rw [updG_ne (fun z => by rw [z, hp] at e; cases e)]; exact e
    · rw [srtBy_map id (Sum.inl : Int → Key), List.map_map, ek]
      exact q
  · rintro x r σ G' N ⟨d, r', ks, e1, e2, ⟨s, x', y, z, w, rfl⟩, e3, rfl⟩ hN
    cases r' with
    | nil => cases e2
    | cons t r' =>
      rw [List.map_cons] at e2
      cases e2
      simp [tbD]
      refine forGo_inv (fun items σ G' => ∃ (d' r2 : Rows), t.rw = d' ++ r2 ∧ items = r2.map rowD ∧ (∃ s x y z w, σ = [s, some (.ref p), x, y, z, w]) ∧ G' = updG G p (.dic (foundD ((d'.map (fun r : Int × List D => r.1)).foldl addk ks)))) ?_ ?_ _ _ _ ⟨[], t.rw, rfl, rfl, ⟨_, _, _, _, _, rfl⟩, rfl⟩
      · rintro σ G' ⟨d', r2, f1, f2, ⟨s, x, y, z, w, rfl⟩, rfl⟩
        have er : r2 = [] := List.map_eq_nil_iff.mp f2.symm
        subst er
        rw [List.append_nil] at f1
        subst f1
        refine hN _ _ ⟨d ++ [t], r', _, by rw [e1, List.append_assoc]; rfl, rfl, ⟨_, _, _, _, _, rfl⟩, ?_, rfl⟩
        rw [List.flatMap_append, List.foldl_append, ← e3]
        simp
      · rintro x r σ G' N' ⟨d', r2, f1, f2, ⟨s, x', y, z, w, rfl⟩, rfl⟩ hN'
        cases r2 with
        | nil => cases f2
        | cons q2 r2 =>
          rw [List.map_cons] at f2
          cases f2
          simp [rowD, put_found, Dl.upd_upd]
          refine ⟨?_, ?_⟩
          · have hm : ∀ j ∈ (d'.map (fun r : Int × List D => r.1)).foldl addk ks, j ∈ keys6 := fun j hj => by
              rw [fold_mem] at hj
              rcases hj with hj | hj
              · rw [e3, fold_mem] at hj
                rcases hj with hj | hj
                · cases hj
                · obtain ⟨u, hu, hj⟩ := List.mem_flatMap.mp hj
                  obtain ⟨v, hv, rfl⟩ := List.mem_map.mp hj
                  exact h u (by rw [e1]; exact List.mem_append_left _ hu) v hv
              · obtain ⟨v, hv, rfl⟩ := List.mem_map.mp hj
                exact h t (by rw [e1]; exact List.mem_append_right _ List.mem_cons_self) v (by rw [f1]; exact List.mem_append_left _ hv)
            have hl := nodup_le (fold_nd (d'.map (fun r : Int × List D => r.1)) ks (by rw [e3]; exact fold_nd _ _ List.Pairwise.nil)) hm
            have : (foundD ((d'.map (fun r : Int × List D => r.1)).foldl addk ks)).length ≤ 6 := by unfold foundD; rw [List.length_map]; exact hl
            omega
          · refine hN' _ _ ⟨d' ++ [q2], r2, by rw [f1, List.append_assoc]; rfl, rfl, ⟨_, _, _, _, _, rfl⟩, ?_⟩
            rw [List.map_append, List.foldl_append]; rfl
end K5

end
section
set_option maxHeartbeats 1000000
namespace K5
open PySem PySem.Spec PyProof.Rows L2 Dl Gk
/-! ### draws -/
def Pt (n : Int) (G : Gp) (p : Addr) : Prop := ∃ a b c : Int, G p = some (.lst [.int a, .int b, .int c]) ∧ 0 ≤ a ∧ 0 ≤ b ∧ b < 2305843009213693952 ∧ 0 ≤ c ∧ c ≤ n
theorem Pt.mono {n m : Int} {G : Gp} {p : Addr} (h : Pt n G p) (l : n ≤ m) : Pt m G p := by
  obtain ⟨a, b, c, e, h1, h2, h3, h4, h5⟩ := h
  exact ⟨a, b, c, e, h1, h2, h3, h4, by omega⟩
theorem Pt.some {n : Int} {G : Gp} {p : Addr} (h : Pt n G p) : G p ≠ none := by
  obtain ⟨a, b, c, e, _⟩ := h
  rw [e]; exact fun z => nomatch z
def Drawn (p : Addr) (n : Int) (P : D → Prop) (G : Gp) (Q : KD) : Prop := ∀ d G', P d → Pt n G' p → (∀ b, b ≠ p → G' b = G b) → Q d G'
def sd__law_take : SpD := fun ds G Q => ∃ p upto n, ds = [.ref p, .int upto] ∧ 0 < upto ∧ upto < 1000000 ∧ n ≤ 1000000 ∧ Pt n G p ∧ Drawn p (n + 1) (fun d => ∃ k : Int, d = .int k ∧ 0 ≤ k ∧ k < upto) G Q
theorem a0 {a b c : D} : L2.atI [a, b, c] 0 = some a := rfl
theorem a1 {a b c : D} : L2.atI [a, b, c] 1 = some b := rfl
theorem a2 {a b c : D} : L2.atI [a, b, c] 2 = some c := rfl
theorem x0 : ixN 3 0 = some 0 := rfl
theorem x2 : ixN 3 2 = some 2 := rfl
theorem prime_at (i : Int) (h0 : 0 ≤ i) (h1 : i < 5) : ∃ m : Int, L2.atI [D.int 2147483647, .int 2147483629, .int 2147483587, .int 2147483579, .int 2147483563] i = some (.int m) ∧ 0 < m ∧ m < 2147483648 := by
  have : i = 0 ∨ i = 1 ∨ i = 2 ∨ i = 3 ∨ i = 4 := by omega
  rcases this with rfl | rfl | rfl | rfl | rfl
  · exact ⟨_, rfl, by decide, by decide⟩
  · exact ⟨_, rfl, by decide, by decide⟩
  · exact ⟨_, rfl, by decide, by decide⟩
  · exact ⟨_, rfl, by decide, by decide⟩
  · exact ⟨_, rfl, by decide, by decide⟩
theorem r__law_take : Rd b__law_take n__law_take sd__law_take := by
  rintro ds G Q ⟨p, upto, n, rfl, h0, h1, hn, ⟨a, b, c, e, ha, hb, hb2, hc, hc2⟩, q⟩
  by_cases h : 0 < a
  · simp [b__law_take, e, a0, h, x0, h0, updG_same]
    refine ⟨⟨h0, by omega⟩, FgQ.of (q _ _ ⟨_, rfl, Int.emod_nonneg _ (by omega), Int.emod_lt_of_pos _ h0⟩ ⟨a / upto, b, c, updG_same, Int.ediv_nonneg ha (by omega), hb, hb2, hc, by omega⟩ fun x hx => updG_ne hx)⟩
  · have h' : ¬ a > 0 := h
    simp [b__law_take, e, a0, a1, a2, h, x0, x2, h0, updG_same]
    obtain ⟨m, em, m0, m1⟩ := prime_at ((c + 1) % 5) (Int.emod_nonneg _ (by decide)) (Int.emod_lt_of_pos _ (by decide))
    have hsq : (99884 * (c + 1) * (c + 1)) ≤ 99884 * 1000001 * 1000001 := by
      have : (c + 1) * (c + 1) ≤ 1000001 * 1000001 := Int.mul_le_mul (by omega) (by omega) (by omega) (by decide)
      rw [Int.mul_assoc]
      omega
    have hsq0 : 0 ≤ 99884 * (c + 1) * (c + 1) := Int.mul_nonneg (Int.mul_nonneg (by decide) (by omega)) (by omega)
    refine ⟨_, em, .inl ⟨by omega, by omega⟩, .inr ⟨by omega, by omega⟩, ⟨by omega, by omega, by omega⟩, ?_⟩
    have b0 := Int.emod_nonneg ((b + 99884 * (c + 1) * (c + 1) + 1072) ^ 3) (b := m) (by omega)
    have b1 := Int.emod_lt_of_pos ((b + 99884 * (c + 1) * (c + 1) + 1072) ^ 3) m0
    simp [m0, updG_same, a2]
    refine ⟨.inl ⟨by omega, by omega⟩, .inl ⟨by omega, by omega⟩, ⟨by omega, by omega⟩, FgQ.of (q _ _ ⟨_, rfl, Int.emod_nonneg _ (by omega), Int.emod_lt_of_pos _ h0⟩ ⟨a, b, c + 1, updG_same, ha, hb, hb2, by omega, by omega⟩ fun x hx => updG_ne hx)⟩
end K5

end
section
set_option maxHeartbeats 1000000
namespace K5
open PySem PySem.Spec PyProof.Rows L2 Dl Gk
theorem at_mem {α : Type} {xs : List α} {k : Int} (h0 : 0 ≤ k) (h1 : k < xs.length) : ∃ x, x ∈ xs ∧ L2.atI xs k = some x ∧ xs[k.toNat]? = some x := by
  have hk : k.toNat < xs.length := by omega
  have e2 : xs[k.toNat]? = some xs[k.toNat] := List.getElem?_eq_getElem hk
  refine ⟨xs[k.toNat], List.getElem_mem hk, ?_, e2⟩
  have e3 := L2.atI_nat e2
  have e : ((k.toNat : Nat) : Int) = k := by omega
  rw [e] at e3
  exact e3
def sd__law_of : SpD := fun ds G Q => ∃ p xs n, ds = [.ref p, .lst xs] ∧ 0 < xs.length ∧ xs.length < 1000 ∧ n ≤ 1000000 ∧ Pt n G p ∧ Drawn p (n + 1) (fun d => d ∈ xs) G Q
theorem r__law_of : Rd (b__law_of sd__law_take) n__law_of sd__law_of := by
  rintro ds G Q ⟨p, xs, n, rfl, h0, h1, hn, pt, q⟩
  simp [b__law_of]
  refine ⟨p, xs.length, n, rfl, by omega, by omega, hn, pt, ?_⟩
  rintro d G' ⟨k, rfl, k0, k1⟩ pt' oth
  obtain ⟨x, hx, e, _⟩ := at_mem k0 k1
  simp [e]
  exact FgQ.of (q x G' hx pt' oth)
def sd__law_cells : SpD := fun ds G Q => ∃ xs, ds = [.lst xs, .int 2] ∧ ∀ m : Nat, (m = 1 ∨ m = 2) → Q (.lst (rangeD 0 m)) G
theorem r__law_cells : Rd b__law_cells n__law_cells sd__law_cells := by
  rintro ds G Q ⟨xs, rfl, q⟩
  simp [b__law_cells]
  have hm : ∃ m : Nat, (m = 1 ∨ m = 2) ∧ (if (if (xs.length : Int) < 2 then (xs.length : Int) else 2) > 1 then (if (xs.length : Int) < 2 then (xs.length : Int) else 2) else 1) = (m : Int) := by
    by_cases h : (xs.length : Int) < 2
    · rw [if_pos h, if_neg (by omega)]; exact ⟨1, .inl rfl, rfl⟩
    · rw [if_neg h, if_pos (by omega)]; exact ⟨2, .inr rfl, rfl⟩
  obtain ⟨m, h12, e⟩ := hm
  have e' : (if (1 : Int) < (if (xs.length : Int) < 2 then (xs.length : Int) else 2) then (if (xs.length : Int) < 2 then (xs.length : Int) else 2) else 1) = (m : Int) := e
  rw [e']
  exact ⟨by omega, by omega, FgQ.of (q m h12)⟩
/-! ### _law_some -/
def sd__law_some : SpD := fun ds G Q => ∃ (p : Addr) (xs : List D) (many : Nat) (n : Int), ds = [.ref p, .lst xs, .int (many : Nat)] ∧ many ≤ xs.length ∧ xs.length < 1000 ∧ 0 ≤ n ∧ n + many ≤ 1000000 ∧ Pt n G p ∧ Drawn p (n + many) (fun d => ∃ ys rest, d = .lst ys ∧ (ys ++ rest).Perm xs ∧ ys.length = many) G Q
theorem ix_seq {k : Int} {n : Nat} (h0 : 0 ≤ k) (h1 : k < n) : seqIndex? k n = some k.toNat := by
  have e : ixN n k = some k.toNat := by
    unfold ixN
    rw [if_pos h0, if_pos h1]
  exact (ixN_seq e).1
theorem r__law_some : Rd (b__law_some sd__law_take) n__law_some sd__law_some := by
  rintro ds G Q ⟨p, xs, many, n, rfl, h0, h1, hn0, hn, pt, q⟩
  simp [b__law_some]
  intro a ha b hb
  have hba : b ≠ a := fun e => by rw [e, updG_same] at hb; cases hb
  have hpa : p ≠ a := fun e => pt.some (by rw [e]; exact ha)
  have hpb : p ≠ b := fun e => by
    rw [← e, updG_ne hpa] at hb
    exact pt.some hb
  have hgb : G b = none := by rw [updG_ne hba] at hb; exact hb
  refine ⟨by omega, ?_⟩
  refine forGo_inv (fun items σ G' => ∃ (fs rs : List D) (m : Nat), items.length = m ∧ (∀ x ∈ items, x ∈ rangeD 0 many) ∧ fs.length + m = many ∧ (fs ++ rs).Perm xs ∧ (∃ x y z, σ = [some (.ref p), x, y, some (.ref a), some (.ref b), z]) ∧ G' a = some (.lst rs) ∧ G' b = some (.lst fs) ∧ Pt (n + fs.length) G' p ∧ ∀ c, c ≠ p → c ≠ a → c ≠ b → G' c = G c) ?_ ?_ _ _ _ ⟨[], xs, many, ?_, fun x h => h, by simp, .refl _, ⟨_, _, _, rfl⟩, ?_, updG_same, ?_, ?_⟩
  · rintro σ G' ⟨fs, rs, m, e1, _, e2, e3, ⟨x, y, z, rfl⟩, f1, f2, f3, f4⟩
    have em : m = 0 := e1.symm
    subst em
    have hfs : fs.length = many := by omega
    simp
    refine ⟨_, rfl, LkV.stepD b (.lst fs) f2 (.done ?_)⟩
    have es : D.sub b (MO.lst fs).toD (.ref b) = .lst fs := by simp [at1, D.mp]
    rw [es]
    refine ⟨fun c => if c = p then G' p else G c, fun c m' hc => ?_, ?_⟩
    · replace hc : (if c = p then G' p else G c) = some m' := hc
      by_cases hcb : c = b
      · rw [hcb, if_neg (Ne.symm hpb), hgb] at hc; cases hc
      · rw [delG_ne hcb]
        by_cases hcp : c = p
        · rw [if_pos hcp] at hc
          rw [hcp]; exact hc
        · rw [if_neg hcp] at hc
          by_cases hca : c = a
          · rw [hca, ha] at hc; cases hc
          · rw [f4 c hcp hca hcb]; exact hc
    · refine q _ _ ⟨fs, rs, rfl, e3, hfs⟩ ?_ fun c hc => by simp [hc]
      obtain ⟨u, v, w, e, r⟩ := f3
      refine ⟨u, v, w, ?_, ?_⟩
      · simp [e]
      · rw [hfs] at r; exact r
  · rintro x r σ G' N ⟨fs, rs, m, e1, e0, e2, e3, ⟨x', y, z, rfl⟩, f1, f2, f3, f4⟩ hN
    have hl := e3.length_eq
    rw [List.length_append] at hl
    rw [List.length_cons] at e1
    have hrs : 0 < rs.length := by omega
    simp [f1, f2]
    refine ⟨p, rs.length, n + fs.length, rfl, by omega, by omega, by omega, f3, ?_⟩
    rintro d G2 ⟨k, rfl, k0, k1⟩ pt2 oth
    have g1 : G2 a = some (.lst rs) := by rw [oth a (Ne.symm hpa)]; exact f1
    have g2 : G2 b = some (.lst fs) := by rw [oth b (Ne.symm hpb)]; exact f2
    obtain ⟨v, hv, _, ev⟩ := at_mem k0 k1
    simp [g1]
    refine ⟨by omega, by omega, _, ix_seq k0 k1, v, ev, ?_⟩
    have g3 : updG G2 a (.lst (rs.eraseIdx k.toNat)) b = some (.lst fs) := by rw [updG_ne hba]; exact g2
    simp [g3]
    refine ⟨by omega, ?_⟩
    refine hN _ _ ⟨fs ++ [v], rs.eraseIdx k.toNat, m - 1, by omega, fun y hy => e0 y (List.mem_cons_of_mem _ hy), by simp; omega, ?_, ⟨_, _, _, rfl⟩, ?_, updG_same, ?_, fun c c1 c2 c3 => ?_⟩
    · have pe := L2.erase_perm rs k.toNat v ev
      rw [List.append_assoc]
      exact (List.Perm.append_left fs pe).trans e3
    · rw [updG_ne (Ne.symm hba), updG_same]
    · obtain ⟨u, v', w, e, r⟩ := pt2
      refine ⟨u, v', w, ?_, ?_⟩
      · rw [updG_ne hpb, updG_ne hpa]; exact e
      · rw [List.length_append, List.length_singleton]
        refine ⟨r.1, r.2.1, r.2.2.1, r.2.2.2.1, ?_⟩
        have := r.2.2.2.2
        push_cast
        omega
    · rw [updG_ne c3, updG_ne c2, oth c c1]
      exact f4 c c1 c2 c3
  · simp [rangeD]
  · rw [updG_ne (Ne.symm hba), updG_same]
  · obtain ⟨u, v, w, e, r⟩ := pt
    refine ⟨u, v, w, ?_, ?_⟩
    · rw [updG_ne hpb, updG_ne hpa]; exact e
    · simpa using r
  · intro c c1 c2 c3
    rw [updG_ne c3, updG_ne c2]
end K5

end
section
set_option maxHeartbeats 1000000
namespace K5
open PySem PySem.Spec PyProof.Rows L2 Dl Gk
/-! ### the law's own checks -/
def sd__law_is_int : SpD := tr fun ds => ∃ i a b : Int, ds = [.int i, .int a, .int b] ∧ a ≤ i ∧ i ≤ b
theorem r__law_is_int : Rd b__law_is_int n__law_is_int sd__law_is_int := by
  rintro ds G Q ⟨⟨i, a, b, rfl, h1, h2⟩, q⟩
  simpa [b__law_is_int, h1, h2] using FgQ.of q
def sd__law_state_is_text : SpD := tr fun ds => ∃ s, ds = [.str s] ∧ textOk s = true
theorem r__law_state_is_text : Rd b__law_state_is_text n__law_state_is_text sd__law_state_is_text := by
  rintro ds G Q ⟨⟨s, rfl, h⟩, q⟩
  obtain ⟨h1, h2⟩ := text_walk h
  have h1' : (s.length : Int) ≤ 12 := by omega
  simp [b__law_state_is_text, h1', -dChain]
  refine lcGo_pure (fun _ => .bl true) (fun x hx Q' hq => ?_) ?_
  · obtain ⟨c, rfl, c1, c2⟩ := h2 x hx
    exact chain_text (i := 1) rfl c1 c2 hq
  · simpa using FgQ.of q
def sd__law_state_is_of : SpD := tr fun ds => ∃ v b, ds = [v, .str (kindS b)] ∧ valOk b v
theorem r__law_state_is_of : Rd (b__law_state_is_of sd__law_is_int sd__law_state_is_text) n__law_state_is_of sd__law_state_is_of := by
  rintro ds G Q ⟨⟨v, b, rfl, h⟩, q⟩
  have e := kind_eq b
  rcases h with rfl | ⟨rfl, i, rfl, h1, h2⟩ | ⟨rfl, s, hs, rfl⟩
  · simpa [b__law_state_is_of] using FgQ.of q
  · have cp : CPow 10 11 := ⟨by omega, by omega, by omega⟩
    simp [b__law_state_is_of, e, Dl.plain, cp]
    exact ⟨⟨i, _, _, rfl, h1, h2⟩, FgQ.of q⟩
  · simp [b__law_state_is_of, e, Dl.plain]
    exact ⟨⟨s, rfl, texts_ok s hs⟩, FgQ.of q⟩
theorem eqv_int (a b : Int) : eqvD (.int a) (.int b) = decide (a = b) := by
  show (a == b) = decide (a = b)
  rw [Bool.eq_iff_iff]; simp
def sd__law_state_are_values : SpD := tr fun ds => ∃ vs cs, ds = [.lst (cs.map colD), .tup vs] ∧ valsOk cs vs
theorem r__law_state_are_values : Rd (b__law_state_are_values sd__law_state_is_of) n__law_state_are_values sd__law_state_are_values := by
  rintro ds G Q ⟨⟨vs, cs, rfl, h⟩, q⟩
  have hl := valsOk_len h
  simp [b__law_state_are_values, Dl.plain, eqv_int, hl]
  refine lcGo_pure (fun _ => .bl true) (fun x hx Q' hq => ?_) ?_
  · obtain ⟨v, c, hc, hv, rfl⟩ := zip_vals h x hx
    simp [colD]
    exact ⟨⟨v, c.2, rfl, hv⟩, hq⟩
  · simpa using FgQ.of q
/-! ### values drawn -/
def sd__law_state_value_drawn : SpD := fun ds G Q => ∃ (p : Addr) (b : Bool) (n : Int), ds = [.ref p, .str (kindS b)] ∧ n ≤ 999000 ∧ Pt n G p ∧ Drawn p (n + 3) (valOk b) G Q
theorem r__law_state_value_drawn : Rd (b__law_state_value_drawn sd__law_take sd__law_of) n__law_state_value_drawn sd__law_state_value_drawn := by
  rintro ds G Q ⟨p, b, n, rfl, hn, pt, q⟩
  have e := kind_eq b
  simp only [b__law_state_value_drawn]
  simp
  refine ⟨p, 7, n, rfl, by omega, by omega, by omega, pt, ?_⟩
  rintro d G1 ⟨k, rfl, k0, k1⟩ pt1 o1
  simp [Dl.plain, eqv_int, e]
  by_cases hk : k = 0
  · rw [if_pos hk]
    exact FgQ.of (q _ _ (.inl rfl) (pt1.mono (by omega)) o1)
  rw [if_neg hk]
  cases b with
  | true =>
    rw [if_pos rfl]
    refine ⟨p, 99, n + 1, rfl, by omega, by omega, by omega, pt1, ?_⟩
    rintro d2 G2 ⟨k2, rfl, k20, k21⟩ pt2 o2
    refine ⟨p, _, n + 1 + 1, rfl, by simp, by simp, by omega, pt2, ?_⟩
    rintro d3 G3 hd pt3 o3
    refine FgQ.of (q _ _ (.inr (.inl ⟨rfl, ?_⟩)) (pt3.mono (by omega)) fun c hc => by rw [o3 c hc, o2 c hc, o1 c hc])
    simp at hd
    rcases hd with h | h | h | h | h | h | h | h
    · exact ⟨_, h, by omega, by omega⟩
    · exact ⟨_, h, by omega, by omega⟩
    · exact ⟨_, h, by omega, by omega⟩
    · exact ⟨_, h, by omega, by omega⟩
    · exact ⟨_, h, by omega, by omega⟩
    · exact ⟨_, h, by omega, by omega⟩
    · exact ⟨_, h, by omega, by omega⟩
    · exact ⟨_, h, by omega, by omega⟩
  | false =>
    rw [if_neg Bool.false_ne_true]
    refine ⟨p, texts.map D.str, n + 1, rfl, by decide, by decide, by omega, pt1, ?_⟩
    rintro d3 G3 hd pt3 o3
    refine FgQ.of (q _ _ (.inr (.inr ⟨rfl, ?_⟩)) (pt3.mono (by omega)) fun c hc => by rw [o3 c hc, o1 c hc])
    obtain ⟨s, hs, rfl⟩ := List.mem_map.mp hd
    exact ⟨s, hs, rfl⟩
def isSq (C : D) (ds : List D) : Prop := C = .lst ds ∨ C = .tup ds
def sd__law_state_values_drawn : SpD := fun ds G Q => ∃ (p : Addr) (C : D) (cs : List (Str × Bool)) (n : Int), ds = [.ref p, C] ∧ isSq C (cs.map colD) ∧ cs.length ≤ 5 ∧ n ≤ 998000 ∧ Pt n G p ∧ Drawn p (n + 15) (fun d => ∃ vs, d = .tup vs ∧ valsOk cs vs) G Q
theorem valsOk_snoc : ∀ {cs : List (Str × Bool)} {vs : List D} {c : Str × Bool} {v : D}, valsOk cs vs → valOk c.2 v → valsOk (cs ++ [c]) (vs ++ [v])
  | [], [], c, v, _, h => ⟨h, trivial⟩
  | _ :: cs, _ :: vs, c, v, h1, h => ⟨h1.1, valsOk_snoc h1.2 h⟩
  | [], _ :: _, _, _, h1, _ => h1.elim
  | _ :: _, [], _, _, h1, _ => h1.elim
theorem r__law_state_values_drawn : Rd (b__law_state_values_drawn sd__law_state_value_drawn) n__law_state_values_drawn sd__law_state_values_drawn := by
  rintro ds G Q ⟨p, C, cs, n, rfl, hC, hl, hn, pt, q⟩
  have key : lcGo (gdTup 2 (gdCons (gdName 2) (gdCons (gdName 3) gdNil))) dYes (dCall sd__law_state_value_drawn (dCons (dVar 0) (dCons (dVar 3) dNil))) [2, 3] [some (.ref p), some C, none, none] (cs.map colD) G (fun ds G1 => FgQ Q (.tup ds) G1) := by
    refine lcInv (fun items acc G' => ∃ d r : List (Str × Bool), cs = d ++ r ∧ items = r.map colD ∧ valsOk d acc ∧ Pt (n + 3 * d.length) G' p ∧ ∀ b, b ≠ p → G' b = G b) ⟨[], cs, rfl, rfl, trivial, by simpa using pt, fun _ _ => rfl⟩ ?_ ?_
    · rintro acc G' ⟨d, r, e1, e2, h1, h2, h3⟩
      have er : r = [] := List.map_eq_nil_iff.mp e2.symm
      subst er
      rw [List.append_nil] at e1
      subst e1
      exact FgQ.of (q _ _ ⟨acc, rfl, h1⟩ (h2.mono (by omega)) h3)
    · rintro x r acc G' N M ⟨d, r', e1, e2, h1, h2, h3⟩ hN hM
      cases r' with
      | nil => cases e2
      | cons c r' =>
        rw [List.map_cons] at e2
        cases e2
        have hd : d.length ≤ 5 := by
          have := congrArg List.length e1
          simp at this
          omega
        simp [colD]
        refine ⟨p, c.2, n + 3 * d.length, rfl, by omega, h2, ?_⟩
        intro v G2 hv pt2 o2
        refine hN _ _ ⟨d ++ [c], r', by rw [e1, List.append_assoc]; rfl, rfl, valsOk_snoc h1 hv, ?_, fun b hb => by rw [o2 b hb]; exact h3 b hb⟩
        rw [List.length_append, List.length_singleton]
        exact pt2.mono (by push_cast; omega)
  rcases hC with rfl | rfl
  · simpa [b__law_state_values_drawn] using key
  · simpa [b__law_state_values_drawn] using key
end K5

end
section
set_option maxHeartbeats 1000000
namespace K5
open PySem PySem.Spec PyProof.Rows L2 Dl Gk
/-! ### own -/
structure OwnOk (o : List Tb) : Prop where
  nd : (o.map (·.nm)).Nodup
  ok : ∀ t ∈ o, TbOk t
def colsK (o : List Tb) : List (Key × D) := o.map fun t => (.inr t.nm, .lst (t.cs.map colD))
def rowsK (o : List Tb) : List (Key × D) := o.map fun t => (.inr t.nm, .dic (rwK t.rw))
def ownL (C R : D) : List (Key × D) := [(.inr ("columns" : PySem.Str), C), (.inr ("rows" : PySem.Str), R)]
def ownD (o : List Tb) : D := .dic (ownL (.dic (colsK o)) (.dic (rowsK o)))
theorem own_cols (C R : D) : valD (ownL C R) (.inr ("columns" : PySem.Str)) = some C := by
  unfold ownL valD
  rw [List.find?_cons_of_pos (by simp)]; rfl
theorem own_rows (C R : D) : valD (ownL C R) (.inr ("rows" : PySem.Str)) = some R := by
  unfold ownL valD
  have ne : ("columns" : PySem.Str) ≠ ("rows" : PySem.Str) := by decide
  rw [List.find?_cons_of_neg (by simpa using ne), List.find?_cons_of_pos (by simp)]; rfl
theorem OwnOk.len {o : List Tb} (h : OwnOk o) : o.length ≤ 5 := by
  have z := nodup_le h.nd (m := names5) fun x hx => by
    obtain ⟨c, hc, rfl⟩ := List.mem_map.mp hx
    exact (h.ok c hc).nm
  rw [List.length_map] at z
  exact z
theorem colsK_keys (o : List Tb) : (colsK o).map (·.1) = (o.map (·.nm)).map Sum.inr := by unfold colsK; rw [List.map_map, List.map_map]; rfl
theorem rowsK_keys (o : List Tb) : (rowsK o).map (·.1) = (o.map (·.nm)).map Sum.inr := by unfold rowsK; rw [List.map_map, List.map_map]; rfl
theorem cols_val {o : List Tb} (h : OwnOk o) {t : Tb} (ht : t ∈ o) : valD (colsK o) (.inr t.nm) = some (.lst (t.cs.map colD)) :=
  val_mem (by rw [colsK_keys]; exact nd_inr h.nd) (List.mem_map.mpr ⟨t, ht, rfl⟩)
theorem rows_val {o : List Tb} (h : OwnOk o) {t : Tb} (ht : t ∈ o) : valD (rowsK o) (.inr t.nm) = some (.dic (rwK t.rw)) :=
  val_mem (by rw [rowsK_keys]; exact nd_inr h.nd) (List.mem_map.mpr ⟨t, ht, rfl⟩)
def nmK (t : Tb) : Key := .inr t.nm
def sr (t : Tb) : Tb := { t with rw := srtR t.rw }
def nf (o : List Tb) : List Tb := (srtBy nmK o).map sr
theorem mem_srt {α : Type} {f : α → Key} {l : List α} {x : α} : x ∈ srtBy f l ↔ x ∈ l := (srtBy_perm f l).mem_iff
theorem names_srt {o : List Tb} : (srtBy id ((o.map (·.nm)).map Sum.inr)).map keyV = (srtBy nmK o).map fun t => D.str t.nm := by
  have e : (o.map (·.nm)).map (Sum.inr : Str → Key) = o.map nmK := by rw [List.map_map]; rfl
  rw [e, srtBy_map id nmK, List.map_map]; rfl
theorem all_inr {α : Type} (o : List α) (f : α → Str) : oneKind ((o.map f).map Sum.inr) = true := by simp [oneKind]
def sd__law_state_schema : SpD := fun ds G Q => ∃ o, ds = [ownD o] ∧ OwnOk o ∧ Q (scD (nf o)) G
theorem r__law_state_schema : Rd b__law_state_schema n__law_state_schema sd__law_state_schema := by
  rintro ds G Q ⟨o, rfl, h, q⟩
  simp [b__law_state_schema, ownD, own_cols, colsK]
  refine lcMap (fun t : Tb => D.tup [.str t.nm, .lst (t.cs.map colD)]) tsD o (fun t ht Q' hq => ?_) ?_
  · simpa [tsD] using hq
  · right; right
    refine ⟨o.map fun t => (nmK t, .tup (t.cs.map colD)), ?_, ?_, ?_, ?_⟩
    · rw [List.map_map]; rfl
    · rw [List.map_map]
      have e : ((fun x : Key × D => x.1) ∘ fun t : Tb => (nmK t, D.tup (t.cs.map colD))) = Sum.inr ∘ (·.nm) := rfl
      rw [e, ← List.map_map]
      exact nd_inr h.nd
    · rw [List.map_map]; simp [oneKind, nmK]
    · rw [srtBy_map (fun p : Key × D => p.1) (fun t : Tb => (nmK t, D.tup (t.cs.map colD))), List.map_map]
      have e : scD (nf o) = .tup (List.map (Dl.pairD ∘ fun t : Tb => (nmK t, D.tup (t.cs.map colD))) (srtBy (fun a => nmK a) o)) := by
        unfold scD nf
        rw [List.map_map]; rfl
      rw [e] at q
      exact FgQ.of q
theorem srtR_mem {rw : Rows} {r : Int × List D} : r ∈ srtR rw ↔ r ∈ rw := mem_srt
theorem keys_srt {rw : Rows} : (srtBy id ((rw.map (·.1)).map Sum.inl)).map keyV = (srtR rw).map fun r => D.int r.1 := by
  have e : (rw.map (·.1)).map (Sum.inl : Int → Key) = rw.map fun r => Sum.inl r.1 := by rw [List.map_map]; rfl
  rw [e, srtBy_map id (fun r : Int × List D => (Sum.inl r.1 : Key)), List.map_map]; rfl
theorem rw_val {rw : Rows} (h : (rw.map (·.1)).Nodup) {r : Int × List D} (hr : r ∈ rw) : valD (rwK rw) (.inl r.1) = some (.tup r.2) :=
  val_mem (rwK_nd h) (List.mem_map.mpr ⟨r, hr, rfl⟩)
def sd__law_state_told : SpD := fun ds G Q => ∃ o, ds = [ownD o] ∧ OwnOk o ∧ Q (stD (nf o)) G
theorem r__law_state_told : Rd b__law_state_told n__law_state_told sd__law_state_told := by
  rintro ds G Q ⟨o, rfl, h, q⟩
  have hl := h.len
  have e1 := rowsK_keys o
  have hl2 : (rowsK o).length < 64 := by unfold rowsK; rw [List.length_map]; omega
  simp [b__law_state_told, ownD, own_rows, -List.map_map, e1, names_srt, hl2, all_inr]
  intro p hp
  refine forGo_inv (fun items σ G' => ∃ d r : List Tb, srtBy nmK o = d ++ r ∧ items = r.map (fun t => D.str t.nm) ∧ (∃ x y z, σ = [some (ownD o), some (.ref p), x, y, z]) ∧ G' = updG G p (.lst (d.map fun t => tbD (sr t)))) ?_ ?_ _ _ _ ⟨[], srtBy nmK o, rfl, rfl, ⟨_, _, _, rfl⟩, rfl⟩
  · rintro σ G' ⟨d, r, f1, f2, ⟨x, y, z, rfl⟩, rfl⟩
    have er : r = [] := List.map_eq_nil_iff.mp f2.symm
    subst er
    rw [List.append_nil] at f1
    subst f1
    simp [-List.map_map]
    refine ⟨G, fun a m e => by rw [updG_ne (fun z => by rw [z, hp] at e; cases e)]; exact e, ?_⟩
    have e : stD (nf o) = .tup ((srtBy nmK o).map fun t => tbD (sr t)) := by
      unfold stD nf
      rw [List.map_map]; rfl
    rw [← e]; exact q
  · rintro x r σ G' N ⟨d, r', f1, f2, ⟨x', y, z, rfl⟩, rfl⟩ hN
    cases r' with
    | nil => cases f2
    | cons t r' =>
      rw [List.map_cons] at f2
      cases f2
      have ht : t ∈ o := mem_srt.mp (by rw [f1]; exact List.mem_append_right _ List.mem_cons_self)
      have ev := rows_val h ht
      have hd : d.length ≤ 5 := by
        have := congrArg List.length f1
        rw [(srtBy_perm nmK o).length_eq, List.length_append] at this
        omega
      have hr2 := (h.ok t ht).len
      have hl3 : (rwK t.rw).length < 64 := by unfold rwK; rw [List.length_map]; omega
      have e5 : oneKind ((t.rw.map (·.1)).map Sum.inl) = true := by simp [oneKind]
      simp [ownD, own_rows, -List.map_map, ev, rwK_keys, keys_srt, hl3, e5]
      refine lcMap (fun r : Int × List D => D.int r.1) rowD (srtR t.rw) (fun r hr Q' hq => ?_) ?_
      · have ev2 := rw_val (h.ok t ht).nd (srtR_mem.mp hr)
        simpa [ev2, rowD] using hq
      · simp [-List.map_map, Dl.upd_upd]
        refine ⟨by omega, hN _ _ ⟨d ++ [t], r', by rw [f1, List.append_assoc]; rfl, rfl, ⟨_, _, _, rfl⟩, ?_⟩⟩
        rw [List.map_append]; rfl
end K5

end
section
set_option maxHeartbeats 1000000
namespace K5
open PySem PySem.Spec PyProof.Rows L2 Dl Gk
theorem look_perm {rw rw' : Rows} (h : (rw.map (·.1)).Nodup) (p : rw'.Perm rw) (k : Int) : look k rw' = look k rw := by
  have nd' : (rw'.map (·.1)).Nodup := (p.map _).nodup_iff.mpr h
  unfold look
  cases e : rw.find? (fun r => decide (r.1 = k)) with
  | none =>
    have e' : rw'.find? (fun r => decide (r.1 = k)) = none := by
      rw [List.find?_eq_none] at e ⊢
      exact fun x hx => e x (p.mem_iff.mp hx)
    rw [e']
  | some r =>
    have hr := List.mem_of_find?_eq_some e
    have hk : r.1 = k := by simpa using List.find?_some e
    cases e' : rw'.find? (fun r => decide (r.1 = k)) with
    | none =>
      rw [List.find?_eq_none] at e'
      exact absurd (by simpa using hk) (e' r (p.mem_iff.mpr hr))
    | some r' =>
      have hr' := p.mem_iff.mp (List.mem_of_find?_eq_some e')
      have hk' : r'.1 = k := by simpa using List.find?_some e'
      have : r' = r := inj_nodup (f := fun r : Int × List D => (Sum.inl r.1 : Key)) (l := rw) (by
        have : rw.map (fun r : Int × List D => (Sum.inl r.1 : Key)) = (rw.map (·.1)).map Sum.inl := by rw [List.map_map]; rfl
        rw [this]; exact nd_inl h) r' hr' r hr (by rw [hk, hk'])
      rw [this]
theorem look_srt {rw : Rows} (h : (rw.map (·.1)).Nodup) (k : Int) : look k (srtR rw) = look k rw := look_perm h (srtBy_perm _ rw) k
def sd__law_state_keyed : SpD := fun ds G Q => ∃ o k, ds = [ownD o, .int k] ∧ OwnOk o ∧ Q (krD (under k (nf o))) G
theorem r__law_state_keyed : Rd b__law_state_keyed n__law_state_keyed sd__law_state_keyed := by
  rintro ds G Q ⟨o, k, rfl, h, q⟩
  have hl := h.len
  have e1 := rowsK_keys o
  have hl2 : (rowsK o).length < 64 := by unfold rowsK; rw [List.length_map]; omega
  simp [b__law_state_keyed, ownD, own_rows, -List.map_map, e1, names_srt, hl2, all_inr]
  refine lcMap (fun t : Tb => D.str t.nm) (fun t => .tup [.str t.nm, optD (look k t.rw)]) (srtBy nmK o) (fun t ht Q' hq => ?_) ?_
  · have ev := rows_val h (mem_srt.mp ht)
    simpa [own_rows, ev, look_val] using hq
  · have e : krD (under k (nf o)) = .tup ((srtBy nmK o).map fun t => D.tup [.str t.nm, optD (look k t.rw)]) := by
      unfold krD under nf
      rw [List.map_map, List.map_map]
      congr 1
      refine List.map_congr_left fun t ht => ?_
      show D.tup [.str t.nm, optD (look k (srtR t.rw))] = _
      rw [look_srt (h.ok t (mem_srt.mp ht)).nd]
    rw [e] at q
    simpa [-List.map_map] using FgQ.of q
/-- strictly rising lists with the same members are one -/
theorem rise_uniq : ∀ {l m : List Int}, l.Pairwise (· < ·) → m.Pairwise (· < ·) → (∀ k, k ∈ l ↔ k ∈ m) → l = m
  | [], [], _, _, _ => rfl
  | [], y :: m, _, _, h => absurd ((h y).mpr List.mem_cons_self) (by simp)
  | x :: l, [], _, _, h => absurd ((h x).mp List.mem_cons_self) (by simp)
  | x :: l, y :: m, h1, h2, h => by
    obtain ⟨a1, a2⟩ := List.pairwise_cons.mp h1
    obtain ⟨b1, b2⟩ := List.pairwise_cons.mp h2
    have e : x = y := by
      rcases List.mem_cons.mp ((h x).mp List.mem_cons_self) with e | hx
      · exact e
      · rcases List.mem_cons.mp ((h y).mpr List.mem_cons_self) with e | hy
        · exact e.symm
        · have := b1 x hx
          have := a1 y hy
          omega
    subst e
    rw [rise_uniq a2 b2 fun k => ⟨fun hk => ?_, fun hk => ?_⟩]
    · rcases List.mem_cons.mp ((h k).mp (List.mem_cons_of_mem _ hk)) with e | z
      · have := a1 k hk; omega
      · exact z
    · rcases List.mem_cons.mp ((h k).mpr (List.mem_cons_of_mem _ hk)) with e | z
      · have := b1 k hk; omega
      · exact z
def keysL (S : List Tb) : List Int := srtBy Sum.inl (allk S)
theorem keysL_rise (S : List Tb) : (keysL S).Pairwise (· < ·) := by
  have h1 : (keysL S).Pairwise fun a b => ltKey (.inl b) (.inl a) = false := srtBy_srtd Sum.inl (allk S)
  have nd : (keysL S).Nodup := (srtBy_perm Sum.inl (allk S)).nodup_iff.mpr (allk_nd S)
  refine (h1.and nd).imp fun {a b} ⟨q, ne⟩ => ?_
  have : ¬ b < a := of_decide_eq_false q
  omega
theorem keysL_mem (S : List Tb) (k : Int) : k ∈ keysL S ↔ ∃ t ∈ S, k ∈ t.rw.map (·.1) := by
  unfold keysL
  rw [mem_srt, allk_mem]
theorem nf_keys (o : List Tb) (k : Int) : (∃ t ∈ nf o, k ∈ t.rw.map (·.1)) ↔ ∃ t ∈ o, k ∈ t.rw.map (·.1) := by
  unfold nf
  constructor
  · rintro ⟨t, ht, hk⟩
    obtain ⟨u, hu, rfl⟩ := List.mem_map.mp ht
    obtain ⟨r, hr, rfl⟩ := List.mem_map.mp hk
    exact ⟨u, mem_srt.mp hu, List.mem_map.mpr ⟨r, srtR_mem.mp hr, rfl⟩⟩
  · rintro ⟨u, hu, hk⟩
    obtain ⟨r, hr, rfl⟩ := List.mem_map.mp hk
    exact ⟨sr u, List.mem_map.mpr ⟨u, mem_srt.mpr hu, rfl⟩, List.mem_map.mpr ⟨r, srtR_mem.mpr hr, rfl⟩⟩
def sd__law_state_keys : SpD := fun ds G Q => ∃ o, ds = [ownD o] ∧ OwnOk o ∧ Q (.lst ((keysL (nf o)).map D.int)) G
theorem r__law_state_keys : Rd b__law_state_keys n__law_state_keys sd__law_state_keys := by
  rintro ds G Q ⟨o, rfl, h, q⟩
  have hl := h.len
  simp [b__law_state_keys, ownD, own_rows]
  intro p hp
  have e0 : (rowsK o).map (fun p => p.2) = o.map fun t => D.dic (rwK t.rw) := by unfold rowsK; rw [List.map_map]; rfl
  rw [e0]
  refine forGo_inv (fun items σ G' => ∃ (d r : List Tb), o = d ++ r ∧ items = r.map (fun t => D.dic (rwK t.rw)) ∧ (∃ x z, σ = [x, some (.ref p), z]) ∧ G' p = some (.lst ((d.flatMap fun t => t.rw.map (fun r : Int × List D => r.1)).map D.int)) ∧ (∀ b, G b ≠ none → G' b = G b)) ?_ ?_ _ _ _ ⟨[], o, rfl, rfl, ⟨_, _, rfl⟩, updG_same, fun b hb => updG_ne fun e => hb (by rw [e]; exact hp)⟩
  · rintro σ G' ⟨d, r, e1, e2, ⟨x, z, rfl⟩, f1, f2⟩
    have er : r = [] := List.map_eq_nil_iff.mp e2.symm
    subst er
    rw [List.append_nil] at e1
    subst e1
    have hlen : (o.flatMap fun t => t.rw.map (fun r : Int × List D => r.1)).length < 64 := by
      have : ∀ l : List Tb, (∀ t ∈ l, t.rw.length ≤ 6) → (l.flatMap fun t => t.rw.map (fun r : Int × List D => r.1)).length ≤ 6 * l.length := fun l => by
        induction l with
        | nil => intro _; simp
        | cons t l ih =>
          intro hh
          rw [List.flatMap_cons, List.length_append, List.length_map, List.length_cons]
          have := ih fun u hu => hh u (List.mem_cons_of_mem _ hu)
          have := hh t List.mem_cons_self
          omega
      have := this o fun t ht => (h.ok t ht).len
      omega
    refine ⟨_, rfl, (o.flatMap fun t => t.rw.map (fun r : Int × List D => r.1)).map D.int, (by simp [f1]), ?_, ?_, fun ms m1 m2 => ⟨G, fun a m e => ?_, ?_⟩⟩
    · rw [List.all_map, List.all_eq_true]; exact fun _ _ => rfl
    · rw [List.length_map]; exact hlen
    · rw [f2 a (by rw [e]; exact fun z => nomatch z)]; exact e
    · have em : ms = keysL (nf o) := rise_uniq m1 (keysL_rise _) fun k => by
        rw [m2, keysL_mem, nf_keys, List.map_map]
        have : (asInt ∘ D.int) = id := rfl
        rw [this, List.map_id, List.mem_flatMap]
      rw [em]; exact q
  · rintro x r σ G' N ⟨d, r', e1, e2, ⟨x', z, rfl⟩, f1, f2⟩ hN
    cases r' with
    | nil => cases e2
    | cons t r' =>
      rw [List.map_cons] at e2
      cases e2
      simp [f1, -keyV]
      intro u hu
      have hup : u ≠ p := fun e => by rw [e, f1] at hu; cases hu
      have ht : t ∈ o := by rw [e1]; exact List.mem_append_right _ List.mem_cons_self
      have g1 : updG G' u (.lst ((rwK t.rw).map fun p => keyV p.1)) p = some (.lst ((d.flatMap fun t => t.rw.map (fun r : Int × List D => r.1)).map D.int)) := by rw [updG_ne (Ne.symm hup)]; exact f1
      have hle : (d.flatMap fun t => t.rw.map (fun r : Int × List D => r.1)).length ≤ 6 * d.length := by
        have hok : ∀ t ∈ d, t.rw.length ≤ 6 := fun t ht => (h.ok t (by rw [e1]; exact List.mem_append_left _ ht)).len
        clear f1 g1 e1 hN
        induction d with
        | nil => simp
        | cons t l ih =>
          rw [List.flatMap_cons, List.length_append, List.length_map, List.length_cons]
          have := ih fun u hu => hok u (List.mem_cons_of_mem _ hu)
          have := hok t List.mem_cons_self
          omega
      have hd : d.length ≤ 5 := by
        have := congrArg List.length e1
        rw [List.length_append] at this
        omega
      have ht6 := (h.ok t ht).len
      refine ⟨_, g1, ?_, ?_⟩
      · rw [List.length_map]
        unfold rwK
        rw [List.length_map]
        omega
      · refine hN _ _ ⟨d ++ [t], r', by rw [e1, List.append_assoc]; rfl, rfl, ⟨_, _, rfl⟩, ?_, fun b hb => ?_⟩
        · rw [updG_same, List.flatMap_append, List.map_append]
          congr 2
          unfold rwK
          simp
        · have hbu : b ≠ u := fun e => by rw [e] at hb; exact hb (by
            cases q' : G u with
            | none => rfl
            | some m => have := f2 u (by rw [q']; exact fun z => nomatch z); rw [hu, q'] at this; cases this)
          have hbp : b ≠ p := fun e => hb (by rw [e]; exact hp)
          rw [updG_ne hbp, updG_ne hbu]
          exact f2 b hb
end K5

end
section
set_option maxHeartbeats 1000000
namespace K5
open PySem PySem.Spec PyProof.Rows L2 Dl Gk
/-! ### without references -/
def Fix (x : D) : Prop := ∀ s : Addr → D, x.mp s = x
theorem mps_map (s : Addr → D) : ∀ l : List D, D.mps s l = l.map (D.mp s)
  | [] => rfl
  | x :: l => by rw [D.mps, mps_map s l]; rfl
theorem mpk_map (s : Addr → D) : ∀ l : List (Key × D), D.mpk s l = l.map fun p => (p.1, p.2.mp s)
  | [] => rfl
  | (k, x) :: l => by rw [D.mpk, mpk_map s l]; rfl
theorem fix_val {b : Bool} {v : D} (h : valOk b v) : Fix v := by
  rcases h with rfl | ⟨_, i, rfl, _⟩ | ⟨_, s, _, rfl⟩ <;> exact fun _ => rfl
theorem fix_map {α : Type} {f : α → D} {l : List α} (h : ∀ a ∈ l, Fix (f a)) (s : Addr → D) : D.mps s (l.map f) = l.map f := by
  rw [mps_map, List.map_map]
  exact List.map_congr_left fun a ha => h a ha s
theorem fix_tup {l : List D} (h : ∀ x ∈ l, Fix x) : Fix (.tup l) := fun s => by
  show D.tup (D.mps s l) = _
  rw [mps_map]
  congr 1
  exact (List.map_congr_left fun x hx => h x hx s).trans (List.map_id l)
theorem fix_lst {l : List D} (h : ∀ x ∈ l, Fix x) : Fix (.lst l) := fun s => by
  show D.lst (D.mps s l) = _
  rw [mps_map]
  congr 1
  exact (List.map_congr_left fun x hx => h x hx s).trans (List.map_id l)
theorem fix_dic {l : List (Key × D)} (h : ∀ p ∈ l, Fix p.2) : Fix (.dic l) := fun s => by
  show D.dic (D.mpk s l) = _
  rw [mpk_map]
  congr 1
  refine (List.map_congr_left fun p hp => ?_).trans (List.map_id l)
  rw [h p hp s]; rfl
theorem fix_vals {cs : List (Str × Bool)} {vs : List D} (h : valsOk cs vs) : ∀ v ∈ vs, Fix v := by
  induction vs generalizing cs with
  | nil => intro v hv; cases hv
  | cons x vs ih =>
    cases cs with
    | nil => exact h.elim
    | cons c cs =>
      intro v hv
      rcases List.mem_cons.mp hv with rfl | hv
      · exact fix_val h.1
      · exact ih h.2 v hv
theorem fix_rw {cs : List (Str × Bool)} {rw : Rows} (h : ∀ r ∈ rw, valsOk cs r.2) : Fix (.dic (rwK rw)) := fix_dic fun p hp => by
  obtain ⟨r, hr, rfl⟩ := List.mem_map.mp hp
  exact fix_tup (fix_vals (h r hr))
theorem fix_cols (o : List Tb) : Fix (.dic (colsK o)) := fix_dic fun p hp => by
  obtain ⟨t, ht, rfl⟩ := List.mem_map.mp hp
  refine fix_lst fun x hx => ?_
  obtain ⟨c, hc, rfl⟩ := List.mem_map.mp hx
  exact fun _ => rfl
/-- all are locked -/
theorem lock_refs {Q : KD} (E : List (Key × D) → D) (hE : ∀ s l, (E l).mp s = E (D.mpk s l)) : ∀ (L : List Lk) (done : List (Key × D)) (G : Gp), (∀ p ∈ done, Fix p.2) → (L.map (·.ad)).Nodup → (∀ p ∈ L, Fix (.dic (rwK p.rw))) → (∀ p ∈ L, G p.ad = some (.dic (rwK p.rw))) →
    (∀ G', (∀ b, b ∉ L.map (·.ad) → G' b = G b) → Q (E (done ++ L.map fun p => (.inr p.nm, .dic (rwK p.rw)))) G') → LkV Q (E (done ++ L.map fun p => (.inr p.nm, .ref p.ad))) G
  | [], done, G, _, _, _, _, q => .done (q G fun _ _ => rfl)
  | p :: L, done, G, hd, nd, fx, hG, q => by
    rw [List.map_cons, List.nodup_cons] at nd
    have hp := hG p List.mem_cons_self
    have fp := fx p List.mem_cons_self
    refine .stepD p.ad (.dic (rwK p.rw)) hp ?_
    have e : D.sub p.ad (MO.dic (rwK p.rw)).toD (E (done ++ (p :: L).map fun p => (.inr p.nm, .ref p.ad))) = E ((done ++ [(.inr p.nm, .dic (rwK p.rw))]) ++ L.map fun p => (.inr p.nm, .ref p.ad)) := by
      show D.mp (at1 p.ad (.dic (rwK p.rw))) (E _) = _
      rw [hE, mpk_map, List.map_append, List.map_cons, List.map_cons, List.append_assoc]
      congr 2
      · refine (List.map_congr_left fun x hx => ?_).trans (List.map_id done)
        rw [hd x hx]; rfl
      · show ((Sum.inr p.nm : Key), D.mp (at1 p.ad (.dic (rwK p.rw))) (.ref p.ad)) :: _ = (Sum.inr p.nm, D.dic (rwK p.rw)) :: _
        have e1 : D.mp (at1 p.ad (.dic (rwK p.rw))) (.ref p.ad) = .dic (rwK p.rw) := by show at1 _ _ _ = _; unfold at1; rw [if_pos rfl]
        rw [e1, List.map_map]
        congr 1
        refine List.map_congr_left fun x hx => ?_
        have ne : x.ad ≠ p.ad := fun e => nd.1 (by rw [← e]; exact List.mem_map_of_mem hx)
        show ((Sum.inr x.nm : Key), at1 p.ad (.dic (rwK p.rw)) x.ad) = _
        unfold at1
        rw [if_neg ne]
    rw [e]
    refine lock_refs E hE L _ _ (fun x hx => ?_) nd.2 (fun x hx => fx x (List.mem_cons_of_mem _ hx)) (fun x hx => ?_) fun G' h' => ?_
    · rcases List.mem_append.mp hx with hx | hx
      · exact hd x hx
      · simp at hx
        subst hx; exact fp
    · rw [delG_ne (fun e => nd.1 (by rw [← e]; exact List.mem_map_of_mem hx))]
      exact hG x (List.mem_cons_of_mem _ hx)
    · have z := q G' fun b hb => by
        rw [List.map_cons, List.mem_cons, not_or] at hb
        rw [h' b hb.2, delG_ne hb.1]
      rw [List.append_assoc]
      exact z
/-! ### the copy -/
def sd__law_state_copy : SpD := fun ds G Q => ∃ o, ds = [ownD o] ∧ OwnOk o ∧ ∀ L G', L.map lr = o.map nr → LkOk L G' → (∀ p ∈ L, G p.ad = none) → (∀ b, b ∉ L.map (·.ad) → G' b = G b) → Q (.dic (ownL (.dic (colsK o)) (refsD L))) G'
theorem r__law_state_copy : Rd b__law_state_copy n__law_state_copy sd__law_state_copy := by
  rintro ds G Q ⟨o, rfl, h, q⟩
  have ndc : ((colsK o).map (·.1)).Nodup := by rw [colsK_keys]; exact nd_inr h.nd
  have ec : (colsK o).map (fun p => D.tup [keyV p.1, p.2]) = o.map fun t => .tup [.str t.nm, .lst (t.cs.map colD)] := by unfold colsK; rw [List.map_map]; rfl
  have er : (rowsK o).map (fun p => D.tup [keyV p.1, p.2]) = o.map fun t => .tup [.str t.nm, .dic (rwK t.rw)] := by unfold rowsK; rw [List.map_map]; rfl
  simp only [b__law_state_copy]
  simp [ownD, own_cols, -keyV, ec]
  refine lcMap (fun t : Tb => D.tup [.str t.nm, .lst (t.cs.map colD)]) (fun t => .tup [.str t.nm, .lst (t.cs.map colD)]) o (fun t ht Q' hq => ?_) ?_
  · simpa using hq
  refine ⟨_, pairs_key nmK (fun t : Tb => D.lst (t.cs.map colD)) o, ?_⟩
  have e1 : mergeD [] (o.map fun t => (nmK t, D.lst (t.cs.map colD))) = colsK o := merge_nil ndc
  rw [e1]
  simp [own_rows, -keyV, er]
  refine lcInv (fun items acc G' => ∃ (d : List Lk) (r : List Tb), items = r.map (fun t => .tup [.str t.nm, .dic (rwK t.rw)]) ∧ acc = d.map (fun p => .tup [.str p.nm, .ref p.ad]) ∧ d.map lr ++ r.map nr = o.map nr ∧ (∀ t ∈ r, t ∈ o) ∧ (d.map Lk.ad).Nodup ∧
      (∀ p ∈ d, G p.ad = none ∧ G' p.ad = some (.dic (rwK p.rw)) ∧ (p.rw.map (fun r : Int × List D => r.1)).Nodup) ∧ ∀ b, b ∉ d.map Lk.ad → G' b = G b) ⟨[], o, rfl, rfl, rfl, fun t h => h, List.Pairwise.nil, (fun p (h : p ∈ ([] : List Lk)) => by cases h), fun b _ => rfl⟩ ?_ ?_
  · rintro acc G' ⟨d, r, e1, rfl, e2, _, e3, e4, e5⟩
    have er : r = [] := List.map_eq_nil_iff.mp e1.symm
    subst er
    rw [List.map_nil, List.append_nil] at e2
    have nm : (d.map (·.nm)).Nodup := by rw [names_of e2]; exact h.nd
    refine ⟨_, pairs_key (fun p : Lk => (Sum.inr p.nm : Key)) (fun p => .ref p.ad) d, ?_⟩
    have nk : ((d.map fun p : Lk => ((Sum.inr p.nm : Key), D.ref p.ad)).map (·.1)).Nodup := by
      rw [List.map_map]
      have e : ((fun x : Key × D => x.1) ∘ fun p : Lk => ((Sum.inr p.nm : Key), D.ref p.ad)) = Sum.inr ∘ (·.nm) := rfl
      rw [e, ← List.map_map]
      exact nd_inr nm
    rw [merge_nil nk]
    have e6 : ∀ C R : D, mergeD [] [(Sum.inr ("columns" : PySem.Str), C), (Sum.inr ("rows" : PySem.Str), R)] = ownL C R := fun C R => merge_nil (by simp; decide)
    simp [e6]
    exact FgQ.of (q d G' e2 ⟨nm, e3, fun p hp => (e4 p hp).2.2, fun p hp => (e4 p hp).2.1⟩ (fun p hp => (e4 p hp).1) e5)
  · rintro x r acc G' N M ⟨d, r', e1, rfl, e2, e0, e3, e4, e5⟩ hN hM
    cases r' with
    | nil => cases e1
    | cons t r' =>
      rw [List.map_cons] at e1
      cases e1
      have ht := e0 t List.mem_cons_self
      obtain ⟨p1, p2⟩ := dict_rows (h.ok t ht).nd
      rw [← rwK_pair] at p1
      simp [-List.map_map]
      refine ⟨_, p1, ?_⟩
      rw [p2]
      intro p hp
      have hpn : p ∉ d.map (·.ad) := fun z => by
        obtain ⟨y, hy, ey⟩ := List.mem_map.mp z
        have := (e4 y hy).2.1
        rw [ey, hp] at this
        cases this
      have hpg : G p = none := by rw [← e5 p hpn]; exact hp
      refine hN _ _ ⟨d ++ [⟨t.nm, p, t.rw⟩], r', rfl, by simp, ?_, fun u hu => e0 u (List.mem_cons_of_mem _ hu), ?_, ?_, ?_⟩
      · rw [List.map_append, List.append_assoc]
        exact e2
      · rw [List.map_append]
        refine List.nodup_append.mpr ⟨e3, by simp, fun a ha b hb => ?_⟩
        simp at hb
        subst hb
        exact fun e => hpn (by rw [← e]; exact ha)
      · intro y hy
        rcases List.mem_append.mp hy with hy | hy
        · obtain ⟨z1, z2, z3⟩ := e4 y hy
          refine ⟨z1, ?_, z3⟩
          rw [updG_ne (fun e => hpn (by rw [← e]; exact List.mem_map_of_mem hy))]
          exact z2
        · simp at hy
          subst hy
          exact ⟨hpg, updG_same, (h.ok t ht).nd⟩
      · intro b hb
        simp at hb
        rw [updG_ne hb.2]
        exact e5 b (by simpa using hb.1)
end K5

end
section
set_option maxHeartbeats 1000000
namespace K5
open PySem PySem.Spec PyProof.Rows L2 Dl Gk
theorem inj_of {α β : Type} (g : α → β) : ∀ {l : List α}, (l.map g).Nodup → ∀ {a b : α}, a ∈ l → b ∈ l → g a = g b → a = b
  | [], _, _, _, h, _, _ => by cases h
  | x :: l, h, a, b, ha, hb, e => by
    rw [List.map_cons, List.nodup_cons] at h
    rcases List.mem_cons.mp ha with e1 | ha
    · rcases List.mem_cons.mp hb with e2 | hb
      · rw [e1, e2]
      · exact absurd (by rw [← e1, e]; exact List.mem_map_of_mem hb) h.1
    · rcases List.mem_cons.mp hb with e2 | hb
      · exact absurd (by rw [← e2, ← e]; exact List.mem_map_of_mem ha) h.1
      · exact inj_of g h.2 ha hb e
/-! ### one change -/
structure Ch where
  nm : Str
  k : Int
  v : Option (List D)
def chD (c : Ch) : D := match c.v with
  | some vs => .tup [.str ("put" : PySem.Str), .str c.nm, .int c.k, .tup vs]
  | none => .tup [.str ("drop" : PySem.Str), .str c.nm, .int c.k]
def chR (k : Int) : Option (List D) → Rows → Rows
  | some vs, rw => putD rw k vs
  | none, rw => dropD rw k
def appT (c : Ch) (t : Tb) : Tb := if t.nm = c.nm then { t with rw := chR c.k c.v t.rw } else t
def app (o : List Tb) (c : Ch) : List Tb := o.map (appT c)
def ChOk (o : List Tb) (c : Ch) : Prop := ∃ t ∈ o, t.nm = c.nm ∧ c.k ∈ keys6 ∧ match c.v with
  | some vs => valsOk t.cs vs
  | none => c.k ∈ t.rw.map (·.1)
theorem putD_keys {κ α : Type} [DecidableEq κ] (l : List (κ × α)) (k : κ) (v : α) : (putD l k v).map (·.1) = if k ∈ l.map (·.1) then l.map (·.1) else l.map (·.1) ++ [k] := by
  by_cases h : k ∈ l.map (·.1)
  · rw [if_pos h]
    unfold putD
    rw [if_pos]
    · rw [List.map_map]
      refine List.map_congr_left fun p hp => ?_
      show (if p.1 = k then (p.1, v) else p).1 = p.1
      split <;> rfl
    · rw [List.any_eq_true]
      obtain ⟨p, hp, e⟩ := List.mem_map.mp h
      exact ⟨p, hp, decide_eq_true e⟩
  · rw [if_neg h, putD_new h, List.map_append]; rfl
theorem putD_nd {κ α : Type} [DecidableEq κ] {l : List (κ × α)} {k : κ} {v : α} (h : (l.map (·.1)).Nodup) : ((putD l k v).map (·.1)).Nodup := by
  rw [putD_keys]
  by_cases hk : k ∈ l.map (·.1)
  · rw [if_pos hk]; exact h
  · rw [if_neg hk]
    exact List.nodup_append.mpr ⟨h, by simp, fun a ha b hb e => by simp at hb; exact hk (by rw [← hb, ← e]; exact ha)⟩
theorem putD_mem {κ α : Type} [DecidableEq κ] {l : List (κ × α)} {k : κ} {v : α} {p : κ × α} (h : p ∈ putD l k v) : p ∈ l ∨ p = (k, v) := by
  unfold putD at h
  split at h
  · obtain ⟨q, hq, e⟩ := List.mem_map.mp h
    by_cases hk : q.1 = k
    · rw [if_pos hk] at e
      right; rw [← e, hk]
    · rw [if_neg hk] at e
      left; rw [← e]; exact hq
  · rcases List.mem_append.mp h with h | h
    · exact .inl h
    · simp at h; exact .inr h
theorem putD_rwK (rw : Rows) (k : Int) (vs : List D) : putD (rwK rw) (.inl k) (.tup vs) = rwK (putD rw k vs) := by
  have ea : ((rwK rw).any fun kv => decide (kv.1 = (Sum.inl k : Key))) = rw.any fun kv => decide (kv.1 = k) := by
    unfold rwK
    rw [List.any_map]
    congr 1
    funext r
    show decide ((Sum.inl r.1 : Key) = .inl k) = decide (r.1 = k)
    simp
  unfold putD
  rw [ea]
  by_cases h : (rw.any fun kv => decide (kv.1 = k)) = true
  · rw [if_pos h, if_pos h]
    unfold rwK
    rw [List.map_map, List.map_map]
    refine List.map_congr_left fun r _ => ?_
    show (if (Sum.inl r.1 : Key) = .inl k then ((Sum.inl r.1 : Key), D.tup vs) else (.inl r.1, .tup r.2)) = _
    by_cases e : r.1 = k
    · simp [e]
    · simp [e]
  · rw [if_neg h, if_neg h]
    unfold rwK
    rw [List.map_append]; rfl
theorem chR_nd {k : Int} {v : Option (List D)} {rw : Rows} (h : (rw.map (·.1)).Nodup) : ((chR k v rw).map (·.1)).Nodup := by
  cases v with
  | none => exact h.sublist (List.Sublist.map _ (List.filter_sublist ..))
  | some vs => exact putD_nd h
theorem appT_nm (c : Ch) (t : Tb) : (appT c t).nm = t.nm := by unfold appT; split <;> rfl
theorem appT_cs (c : Ch) (t : Tb) : (appT c t).cs = t.cs := by unfold appT; split <;> rfl
theorem app_names (o : List Tb) (c : Ch) : (app o c).map (·.nm) = o.map (·.nm) := by
  unfold app
  rw [List.map_map]
  exact List.map_congr_left fun t _ => appT_nm c t
theorem inj_nm {o : List Tb} (h : (o.map (·.nm)).Nodup) {t u : Tb} (ht : t ∈ o) (hu : u ∈ o) (e : t.nm = u.nm) : t = u := by
  refine inj_nodup (f := nmK) (l := o) ?_ t ht u hu (congrArg Sum.inr e)
  have : o.map nmK = (o.map (·.nm)).map Sum.inr := by rw [List.map_map]; rfl
  rw [this]; exact nd_inr h
theorem app_ok {o : List Tb} {c : Ch} (h : OwnOk o) (hc : ChOk o c) : OwnOk (app o c) := by
  refine ⟨by rw [app_names]; exact h.nd, fun t ht => ?_⟩
  obtain ⟨u, hu, rfl⟩ := List.mem_map.mp ht
  have uo := h.ok u hu
  refine ⟨by rw [appT_nm]; exact uo.nm, by rw [appT_cs]; exact uo.cs, ?_, ?_⟩
  · unfold appT
    split
    · exact chR_nd uo.nd
    · exact uo.nd
  · rw [appT_cs]
    unfold appT
    split
    · rename_i e
      intro r hr
      obtain ⟨w, hw, ew, hk, hv⟩ := hc
      have : w = u := inj_nm h.nd hw hu (ew.trans e.symm)
      subst this
      have hr' : r ∈ chR c.k c.v w.rw := hr
      cases ev : c.v with
      | none =>
        rw [ev] at hr'
        exact uo.rw r (List.mem_filter.mp hr').1
      | some vs =>
        rw [ev] at hr' hv
        rcases putD_mem hr' with z | z
        · exact uo.rw r z
        · rw [z]; exact ⟨hk, hv⟩
    · exact uo.rw
def appL (c : Ch) (p : Lk) : Lk := if p.nm = c.nm then { p with rw := chR c.k c.v p.rw } else p
theorem appL_nm (c : Ch) (p : Lk) : (appL c p).nm = p.nm ∧ (appL c p).ad = p.ad := by unfold appL; split <;> exact ⟨rfl, rfl⟩
theorem appL_refs (c : Ch) (L : List Lk) : refsD (L.map (appL c)) = refsD L := by
  unfold refsD
  rw [List.map_map]
  congr 1
  refine List.map_congr_left fun p _ => ?_
  show ((Sum.inr (appL c p).nm : Key), D.ref (appL c p).ad) = _
  rw [(appL_nm c p).1, (appL_nm c p).2]
theorem appL_lr {c : Ch} {L : List Lk} {o : List Tb} (h : L.map lr = o.map nr) : (L.map (appL c)).map lr = (app o c).map nr := by
  have e1 : (L.map (appL c)).map lr = (L.map lr).map fun q => if q.1 = c.nm then (q.1, chR c.k c.v q.2) else q := by
    rw [List.map_map, List.map_map]
    refine List.map_congr_left fun p _ => ?_
    show lr (appL c p) = if (lr p).1 = c.nm then _ else _
    unfold appL lr
    split <;> rfl
  have e2 : (app o c).map nr = (o.map nr).map fun q => if q.1 = c.nm then (q.1, chR c.k c.v q.2) else q := by
    unfold app
    rw [List.map_map, List.map_map]
    refine List.map_congr_left fun p _ => ?_
    show nr (appT c p) = if (nr p).1 = c.nm then _ else _
    unfold appT nr
    split <;> rfl
  rw [e1, e2, h]
theorem lk_rows {L : List Lk} {o : List Tb} (h : L.map lr = o.map nr) : (L.map fun p => ((Sum.inr p.nm : Key), D.dic (rwK p.rw))) = rowsK o := by
  have e1 : (L.map fun p => ((Sum.inr p.nm : Key), D.dic (rwK p.rw))) = (L.map lr).map fun q => (.inr q.1, .dic (rwK q.2)) := by rw [List.map_map]; rfl
  have e2 : rowsK o = (o.map nr).map fun q => (.inr q.1, .dic (rwK q.2)) := by rw [List.map_map]; rfl
  rw [e1, e2, h]
theorem lk_mem {L : List Lk} {o : List Tb} (h : L.map lr = o.map nr) {t : Tb} (ht : t ∈ o) : ∃ p ∈ L, p.nm = t.nm ∧ p.rw = t.rw := by
  have : nr t ∈ L.map lr := by rw [h]; exact List.mem_map_of_mem ht
  obtain ⟨p, hp, e⟩ := List.mem_map.mp this
  exact ⟨p, hp, congrArg Prod.fst e, congrArg Prod.snd e⟩
theorem lk_back {L : List Lk} {o : List Tb} (h : L.map lr = o.map nr) {p : Lk} (hp : p ∈ L) : ∃ t ∈ o, p.nm = t.nm ∧ p.rw = t.rw := by
  have : lr p ∈ o.map nr := by rw [← h]; exact List.mem_map_of_mem hp
  obtain ⟨t, ht, e⟩ := List.mem_map.mp this
  exact ⟨t, ht, (congrArg Prod.fst e).symm, (congrArg Prod.snd e).symm⟩
theorem cols_app (o : List Tb) (c : Ch) : colsK (app o c) = colsK o := by
  unfold colsK app
  rw [List.map_map]
  refine List.map_congr_left fun t _ => ?_
  show ((Sum.inr (appT c t).nm : Key), D.lst ((appT c t).cs.map colD)) = _
  rw [appT_nm, appT_cs]
/-- own, its tables changed, locked: as data -/
theorem lock_own {o : List Tb} {L : List Lk} {G : Gp} {Q : KD} (f : D → D) (hf : ∀ x s, (f x).mp s = f (x.mp s)) (C : D) (hC : Fix C) (h : L.map lr = o.map nr) (ho : OwnOk o) (ok : LkOk L G) (q : ∀ G', (∀ b, b ∉ L.map (·.ad) → G' b = G b) → Q (f (.dic (ownL C (.dic (rowsK o))))) G') : LkV Q (f (.dic (ownL C (refsD L)))) G := by
  have := lock_refs (Q := Q) (fun l => f (.dic (ownL C (.dic l)))) (fun s l => by
    rw [hf]
    congr 1
    show D.dic (D.mpk s (ownL C (.dic l))) = _
    rw [mpk_map]
    unfold ownL
    rw [List.map_cons, List.map_cons, hC s]; rfl) L [] G (fun p hp => by cases hp) ok.ad (fun p hp => ?_) ok.at_ (fun G' hG' => ?_)
  · exact this
  · obtain ⟨t, ht, _, e⟩ := lk_back h hp
    rw [e]
    exact fix_rw fun r hr => ((ho.ok t ht).rw r hr).2
  · rw [List.nil_append, lk_rows h]
    exact q G' hG'
theorem cut3a {a b c d : D} : Dl.cutD [a, b, c, d] none (some 3) = [a, b, c] := rfl
theorem cut3b {a b c : D} : Dl.cutD [a, b, c] none (some 3) = [a, b, c] := rfl
theorem at43 {a b c d : D} : L2.atI [a, b, c, d] 3 = some d := rfl
theorem put_drop : eqvD (.str ("put" : PySem.Str)) (.str ("drop" : PySem.Str)) = false := by rw [eqv_str]; decide
theorem drop_drop : eqvD (.str ("drop" : PySem.Str)) (.str ("drop" : PySem.Str)) = true := by rw [eqv_str]; decide
def sd__law_state_changed : SpD := fun ds G Q => ∃ o c, ds = [ownD o, chD c] ∧ OwnOk o ∧ ChOk o c ∧ Q (.tup [ownD (app o c), .non]) G
theorem r__law_state_changed : Rd (b__law_state_changed sd__law_state_copy sd__law_state_are_values) n__law_state_changed sd__law_state_changed := by
  rintro ds G Q ⟨o, c, rfl, h, hc, q⟩
  have hc0 := hc
  obtain ⟨t, ht, en, hk, hv⟩ := hc
  have ec := cols_val h ht
  rw [en] at ec
  -- the end of both ways
  have fin : ∀ L G1, L.map lr = o.map nr → LkOk L G1 → (∀ p ∈ L, G p.ad = none) → (∀ b, b ∉ L.map (·.ad) → G1 b = G b) → ∀ p ∈ L, p.nm = c.nm →
      LkV (FgQ Q) (.tup [.dic (ownL (.dic (colsK o)) (refsD L)), .non]) (updG G1 p.ad (.dic (rwK (chR c.k c.v p.rw)))) := by
    intro L G1 e1 ok fr ot p hp epn
    rw [← appL_refs c L]
    refine lock_own (o := app o c) (fun x => .tup [x, .non]) (fun _ _ => rfl) _ (fix_cols o) (appL_lr e1) (app_ok h hc0) ⟨?_, ?_, ?_, ?_⟩ fun G' hG' => ?_
    · rw [List.map_map]
      have : (Lk.nm ∘ appL c) = Lk.nm := funext fun p => (appL_nm c p).1
      rw [this]; exact ok.nm
    · rw [List.map_map]
      have : (Lk.ad ∘ appL c) = Lk.ad := funext fun p => (appL_nm c p).2
      rw [this]; exact ok.ad
    · intro x hx
      obtain ⟨y, hy, rfl⟩ := List.mem_map.mp hx
      unfold appL
      split
      · exact chR_nd (ok.nd y hy)
      · exact ok.nd y hy
    · intro x hx
      obtain ⟨y, hy, rfl⟩ := List.mem_map.mp hx
      rw [(appL_nm c y).2]
      by_cases ey : y = p
      · subst ey
        rw [updG_same]
        unfold appL
        rw [if_pos epn]
      · have na : y.ad ≠ p.ad := fun e => ey (inj_of Lk.ad ok.ad hy hp e)
        have nn : y.nm ≠ c.nm := fun e => ey (inj_of Lk.nm ok.nm hy hp (e.trans epn.symm))
        rw [updG_ne na, ok.at_ y hy]
        unfold appL
        rw [if_neg nn]
    · refine ⟨G, fun a m e => ?_, ?_⟩
      · have ha : a ∉ L.map (·.ad) := fun z => by
          obtain ⟨y, hy, rfl⟩ := List.mem_map.mp z
          rw [fr y hy] at e; cases e
        have ha2 : a ∉ (L.map (appL c)).map (·.ad) := by
          rw [List.map_map]
          have : ((fun p : Lk => p.ad) ∘ appL c) = Lk.ad := funext fun p => (appL_nm c p).2
          rw [this]; exact ha
        rw [hG' a ha2, updG_ne (fun z => ha (by rw [z]; exact List.mem_map_of_mem hp)), ot a ha]; exact e
      · unfold ownD at q
        rw [cols_app] at q
        exact q
  cases ev : c.v with
  | some vs =>
    rw [ev] at hv fin
    simp [b__law_state_changed, chD, ev, cut3a, ownD, own_cols, ec, Dl.plain, put_drop]
    refine ⟨o, rfl, h, fun L G1 e1 ok fr ot => ?_⟩
    obtain ⟨p, hp, e2, e3⟩ := lk_mem e1 ht
    have epn : p.nm = c.nm := e2.trans en
    have er := refs_val ok.nm hp
    rw [epn] at er
    simp [Dl.plain, put_drop, own_cols, ec, at43]
    refine ⟨⟨vs, t.cs, rfl, hv⟩, ?_⟩
    simp [own_rows, refsD, er, at43, ok.at_ p hp]
    refine ⟨?_, ?_⟩
    · have := (h.ok t ht).len
      rw [← e3] at this
      unfold rwK
      rw [List.length_map]; omega
    · rw [putD_rwK]
      exact ⟨_, rfl, (by show 2 ≤ 100000; decide), fin L G1 e1 ok fr ot p hp epn⟩
  | none =>
    rw [ev] at hv fin
    have er0 := rows_val h ht
    simp [b__law_state_changed, chD, ev, cut3b, ownD, own_cols, ec, Dl.plain, drop_drop]
    refine ⟨o, rfl, h, fun L G1 e1 ok fr ot => ?_⟩
    obtain ⟨p, hp, e2, e3⟩ := lk_mem e1 ht
    have epn : p.nm = c.nm := e2.trans en
    have er := refs_val ok.nm hp
    rw [epn] at er
    have hin : ∃ r ∈ p.rw, r.1 = c.k := by
      rw [e3]
      exact List.mem_map.mp hv
    obtain ⟨r, hr, erk⟩ := hin
    have evk := rw_val (ok.nd p hp) hr
    rw [erk] at evk
    simp [Dl.plain, drop_drop, own_rows, refsD, er, ok.at_ p hp, evk]
    refine ⟨_, rfl, (by show 2 ≤ 100000; decide), ?_⟩
    have z := fin L G1 e1 ok fr ot p hp epn
    have ed : dropD (rwK p.rw) (.inl c.k) = rwK (chR c.k none p.rw) := drop_rwK c.k p.rw
    rw [ed]
    exact z
end K5

end
section
set_option maxHeartbeats 1000000
namespace K5
open PySem PySem.Spec PyProof.Rows L2 Dl Gk
def ChsOk : List Tb → List Ch → Prop
  | _, [] => True
  | o, c :: cs => ChOk o c ∧ ChsOk (app o c) cs
theorem ChsOk.snoc : ∀ {o : List Tb} {cs : List Ch} {c : Ch}, ChsOk o cs → ChOk (cs.foldl app o) c → ChsOk o (cs ++ [c])
  | o, [], c, _, h => ⟨h, trivial⟩
  | o, x :: cs, c, h1, h => ⟨h1.1, ChsOk.snoc h1.2 h⟩
theorem own_fold {cs : List Ch} : ∀ {o : List Tb}, OwnOk o → ChsOk o cs → OwnOk (cs.foldl app o) := by
  induction cs with
  | nil => exact fun h _ => h
  | cons c cs ih => exact fun h hc => ih (app_ok h hc.1) hc.2
def sd__law_state_dealt : SpD := fun ds G Q => ∃ o cs, ds = [ownD o, .tup (cs.map chD)] ∧ OwnOk o ∧ ChsOk o cs ∧ Q (.tup [ownD (cs.foldl app o), .non]) G
theorem r__law_state_dealt : Rd (b__law_state_dealt sd__law_state_changed) n__law_state_dealt sd__law_state_dealt := by
  rintro ds G Q ⟨o, cs, rfl, h, hc, q⟩
  simp [b__law_state_dealt]
  refine forGo_inv (fun items σ G' => G' = G ∧ ∃ (r : List Ch) (o' : List Tb), items = r.map chD ∧ OwnOk o' ∧ ChsOk o' r ∧ r.foldl app o' = cs.foldl app o ∧ ∃ x y z, σ = [some (ownD o'), x, y, z]) ?_ ?_ _ _ _ ⟨rfl, cs, o, rfl, h, hc, rfl, _, _, _, rfl⟩
  · rintro σ G' ⟨rfl, r, o', e1, _, _, e2, x, y, z, rfl⟩
    have er : r = [] := List.map_eq_nil_iff.mp e1.symm
    subst er
    have e2' : o' = cs.foldl app o := e2
    rw [← e2'] at q
    simpa using FgQ.of q
  · rintro x r σ G' N ⟨rfl, r', o', e1, ho, hcs, e2, x', y, z, rfl⟩ hN
    cases r' with
    | nil => cases e1
    | cons c r' =>
      rw [List.map_cons] at e1
      cases e1
      simp
      refine ⟨o', c, rfl, ho, hcs.1, ?_⟩
      simp
      exact hN _ _ ⟨rfl, r', app o' c, rfl, app_ok ho hcs.1, hcs.2, e2, _, _, _, rfl⟩
/-! ### rows laid under a key -/
def vOf (J : Jn) (nm : Str) : Option (List D) := (J.find? fun j => decide (j.1.nm = nm)).bind (·.2)
def layT (J : Jn) (k : Int) (t : Tb) : Tb := { t with rw := newRw k (vOf J t.nm) t.rw }
def lay (J : Jn) (k : Int) (o : List Tb) : List Tb := o.map (layT J k)
theorem vOf_mem {J : Jn} (h : (J.map fun j => j.1.nm).Nodup) {j : Tb × Option (List D)} (hj : j ∈ J) : vOf J j.1.nm = j.2 := by
  induction J with
  | nil => cases hj
  | cons x J ih =>
    rw [List.map_cons, List.nodup_cons] at h
    unfold vOf
    rcases List.mem_cons.mp hj with e | hj
    · subst e
      rw [List.find?_cons_of_pos (by simp)]; rfl
    · have ne : x.1.nm ≠ j.1.nm := fun e => h.1 (by rw [e]; exact List.mem_map_of_mem (f := fun j : Tb × Option (List D) => j.1.nm) hj)
      rw [List.find?_cons_of_neg (by simpa using ne)]
      exact ih h.2 hj
theorem newRw_mem {k : Int} {v : Option (List D)} {rw : Rows} {r : Int × List D} (h : r ∈ newRw k v rw) : r ∈ rw ∨ ∃ vs, v = some vs ∧ r = (k, vs) := by
  cases v with
  | none => exact .inl (List.mem_filter.mp h).1
  | some vs =>
    rcases List.mem_append.mp h with h | h
    · exact .inl (List.mem_filter.mp h).1
    · simp at h; exact .inr ⟨vs, rfl, h⟩
theorem lay_ok {o : List Tb} {J : Jn} {k : Int} (h : OwnOk o) (hk : k ∈ keys6) (hJ : ∀ t ∈ o, ∀ vs, vOf J t.nm = some vs → valsOk t.cs vs) : OwnOk (lay J k o) := by
  refine ⟨?_, fun t ht => ?_⟩
  · unfold lay
    rw [List.map_map]
    exact h.nd
  · obtain ⟨u, hu, rfl⟩ := List.mem_map.mp ht
    have uo := h.ok u hu
    refine ⟨uo.nm, uo.cs, newRw_nd uo.nd, fun r hr => ?_⟩
    rcases newRw_mem hr with z | ⟨vs, e1, e2⟩
    · exact uo.rw r z
    · rw [e2]; exact ⟨hk, hJ u hu vs e1⟩
/-- J's tables are own's, in some order, each once -/
structure JOk (o : List Tb) (J : Jn) : Prop where
  nd : (J.map fun j => j.1.nm).Nodup
  mem : ∀ n, n ∈ J.map (fun j => j.1.nm) ↔ n ∈ o.map (·.nm)
  vals : ∀ t ∈ o, ∀ vs, vOf J t.nm = some vs → valsOk t.cs vs
def sd__law_laid : SpD := fun ds G Q => ∃ o k J, ds = [ownD o, .int k, krD J] ∧ OwnOk o ∧ k ∈ keys6 ∧ JOk o J ∧ Q (ownD (lay J k o)) G
def layL (J : Jn) (done : List Str) (k : Int) (p : Lk) : Lk := if p.nm ∈ done then { p with rw := newRw k (vOf J p.nm) p.rw } else p
theorem r__law_laid : Rd (b__law_laid sd__law_state_copy) n__law_laid sd__law_laid := by
  rintro ds G Q ⟨o, key, J, rfl, h, hk, hJ, q⟩
  simp only [b__law_laid]
  simp
  refine ⟨o, rfl, h, fun L G0 e1 ok fr ot => ?_⟩
  simp [krD]
  refine forGo_inv (fun items σ G' => ∃ d r : Jn, J = d ++ r ∧ items = r.map (fun j => D.tup [.str j.1.nm, optD j.2]) ∧ (∃ a b x y, σ = [a, some (.int key), b, some (.dic (ownL (.dic (colsK o)) (refsD L))), x, y]) ∧
      (∀ p ∈ L, G' p.ad = some (.dic (rwK (layL J (d.map fun j => j.1.nm) key p).rw))) ∧ ∀ b, b ∉ L.map Lk.ad → G' b = G0 b) ?_ ?_ _ _ G0
      ⟨[], J, rfl, rfl, ⟨_, _, _, _, rfl⟩, fun p hp => ?_, fun b _ => rfl⟩
  · rintro σ G' ⟨d, r, e2, e3, ⟨a, b, x, y, rfl⟩, f1, f2⟩
    have er : r = [] := List.map_eq_nil_iff.mp e3.symm
    subst er
    rw [List.append_nil] at e2
    subst e2
    refine ⟨_, rfl, ?_⟩
    have er : refsD L = refsD (L.map (layL J (J.map fun j => j.1.nm) key)) := by
      unfold refsD
      rw [List.map_map]
      congr 1
      refine List.map_congr_left fun p _ => ?_
      show ((Sum.inr p.nm : Key), D.ref p.ad) = (Sum.inr (layL J (J.map fun j => j.1.nm) key p).nm, D.ref (layL J (J.map fun j => j.1.nm) key p).ad)
      unfold layL
      split <;> rfl
    have hnm : ∀ p, (layL J (J.map fun j => j.1.nm) key p).nm = p.nm ∧ (layL J (J.map fun j => j.1.nm) key p).ad = p.ad := fun p => by
      unfold layL
      split <;> exact ⟨rfl, rfl⟩
    rw [er]
    have elr : (L.map (layL J (J.map fun j => j.1.nm) key)).map lr = (lay J key o).map nr := by
      have e5 : (L.map (layL J (J.map fun j => j.1.nm) key)).map lr = (L.map lr).map fun q => (q.1, newRw key (vOf J q.1) q.2) := by
        rw [List.map_map, List.map_map]
        refine List.map_congr_left fun p hp => ?_
        have hin : p.nm ∈ J.map fun j => j.1.nm := by
          rw [hJ.mem, ← names_of e1]
          exact List.mem_map_of_mem hp
        show lr (layL J (J.map fun j => j.1.nm) key p) = _
        unfold layL
        rw [if_pos hin]; rfl
      have e6 : (lay J key o).map nr = (o.map nr).map fun q => (q.1, newRw key (vOf J q.1) q.2) := by
        unfold lay
        rw [List.map_map, List.map_map]; rfl
      rw [e5, e6, e1]
    refine lock_own (o := lay J key o) (fun x => x) (fun _ _ => rfl) _ (fix_cols o) elr (lay_ok h hk hJ.vals) ⟨?_, ?_, ?_, ?_⟩ fun G2 hG2 => ?_
    · rw [List.map_map]
      have : ((fun p : Lk => p.nm) ∘ layL J (J.map fun j => j.1.nm) key) = Lk.nm := funext fun p => (hnm p).1
      rw [this]; exact ok.nm
    · rw [List.map_map]
      have : ((fun p : Lk => p.ad) ∘ layL J (J.map fun j => j.1.nm) key) = Lk.ad := funext fun p => (hnm p).2
      rw [this]; exact ok.ad
    · intro p hp
      obtain ⟨y, hy, rfl⟩ := List.mem_map.mp hp
      unfold layL
      split
      · exact newRw_nd (ok.nd y hy)
      · exact ok.nd y hy
    · intro p hp
      obtain ⟨y, hy, rfl⟩ := List.mem_map.mp hp
      rw [(hnm y).2]
      exact f1 y hy
    · refine ⟨G, fun a m e => ?_, ?_⟩
      · have ha : a ∉ L.map (·.ad) := fun z => by
          obtain ⟨y, hy, rfl⟩ := List.mem_map.mp z
          rw [fr y hy] at e; cases e
        have ha2 : a ∉ (L.map (layL J (J.map fun j => j.1.nm) key)).map (·.ad) := by
          rw [List.map_map]
          have : ((fun p : Lk => p.ad) ∘ layL J (J.map fun j => j.1.nm) key) = Lk.ad := funext fun p => (hnm p).2
          rw [this]; exact ha
        rw [hG2 a ha2, f2 a ha, ot a ha]; exact e
      · have ec : colsK (lay J key o) = colsK o := by unfold colsK lay; rw [List.map_map]; rfl
        unfold ownD at q
        rw [ec] at q
        exact q
  · rintro x r σ G' N ⟨d, r', e2, e3, ⟨a, b, x', y', rfl⟩, f1, f2⟩ hN
    cases r' with
    | nil => cases e3
    | cons j r' =>
      rw [List.map_cons] at e3
      cases e3
      have hj : j ∈ J := by rw [e2]; exact List.mem_append_right _ List.mem_cons_self
      have hjn : j.1.nm ∈ L.map (·.nm) := by
        rw [names_of e1, ← hJ.mem]
        exact List.mem_map_of_mem (f := fun j : Tb × Option (List D) => j.1.nm) hj
      obtain ⟨p, hp, epn⟩ := List.mem_map.mp hjn
      have ev := refs_val ok.nm hp
      rw [epn] at ev
      have nd2 := hJ.nd
      rw [e2, List.map_append, List.map_cons] at nd2
      have hnd : p.nm ∉ d.map (fun j => j.1.nm) := fun z => by
        rw [epn] at z
        exact (List.nodup_append.mp nd2).2.2 _ z _ List.mem_cons_self rfl
      have hG : G' p.ad = some (.dic (rwK p.rw)) := by
        have := f1 p hp
        unfold layL at this
        rw [if_neg hnd] at this
        exact this
      have hvo : vOf J p.nm = j.2 := by rw [epn]; exact vOf_mem hJ.nd hj
      have hlen : p.rw.length ≤ 6 := by
        obtain ⟨t, ht, _, e⟩ := lk_back e1 hp
        rw [e]; exact (h.ok t ht).len
      have fin : ∀ G2 : Gp, (∀ b, b ≠ p.ad → G2 b = G' b) → G2 p.ad = some (.dic (rwK (newRw key j.2 p.rw))) → ∀ u v, N [a, some (.int key), b, some (.dic (ownL (.dic (colsK o)) (refsD L))), u, v] G2 := fun G2 o1 o2 u v => by
        refine hN _ _ ⟨d ++ [j], r', by rw [e2, List.append_assoc]; rfl, rfl, ⟨_, _, _, _, rfl⟩, fun y hy => ?_, fun c hc => ?_⟩
        · by_cases ey : y = p
          · subst ey
            rw [o2]
            unfold layL
            rw [if_pos (by rw [List.map_append]; exact List.mem_append_right _ (by simp [epn])), hvo]
          · have na : y.ad ≠ p.ad := fun e => ey (inj_of Lk.ad ok.ad hy hp e)
            have nn : y.nm ≠ p.nm := fun e => ey (inj_of Lk.nm ok.nm hy hp e)
            rw [o1 _ na, f1 y hy]
            unfold layL
            rw [List.map_append]
            by_cases hy2 : y.nm ∈ d.map (fun j => j.1.nm)
            · rw [if_pos hy2, if_pos (List.mem_append_left _ hy2)]
            · rw [if_neg hy2, if_neg]
              intro z
              rcases List.mem_append.mp z with z | z
              · exact hy2 z
              · simp at z
                exact nn (z.trans epn.symm)
        · rw [o1 _ fun e => hc (by rw [e]; exact List.mem_map_of_mem hp)]
          exact f2 c hc
      have tail : ∀ G1 : Gp, (∀ b, b ≠ p.ad → G1 b = G' b) → G1 p.ad = some (.dic (rwK (p.rw.filter fun r => decide (r.1 ≠ key)))) →
          if isNonD (optD j.2) = true then N [a, some (.int key), b, some (.dic (ownL (.dic (colsK o)) (refsD L))), some (.str j.1.nm), some (optD j.2)] G1
          else (rwK (p.rw.filter fun r => decide (r.1 ≠ key))).length < 100000 ∧ N [a, some (.int key), b, some (.dic (ownL (.dic (colsK o)) (refsD L))), some (.str j.1.nm), some (optD j.2)] (updG G1 p.ad (.dic (putD (rwK (p.rw.filter fun r => decide (r.1 ≠ key))) (.inl key) (optD j.2)))) := fun G1 o1 o2 => by
        cases eo : j.2 with
        | none =>
          rw [if_pos (show isNonD (optD none) = true from rfl)]
          refine fin G1 o1 ?_ _ _
          rw [o2, eo]; rfl
        | some vs =>
          rw [if_neg (show ¬ isNonD (optD (some vs)) = true from Bool.false_ne_true)]
          refine ⟨?_, ?_⟩
          · have := List.length_filter_le (fun r : Int × List D => decide (r.1 ≠ key)) p.rw
            unfold rwK
            rw [List.length_map]; omega
          · show N _ (updG G1 p.ad (.dic (putD (rwK (p.rw.filter fun r => decide (r.1 ≠ key))) (.inl key) (.tup vs))))
            rw [put_rwK]
            refine fin _ (fun c hc => by rw [updG_ne hc]; exact o1 c hc) ?_ _ _
            rw [updG_same, eo]; rfl
      simp [refsD, -List.map_map, own_rows, ev, hG]
      cases e : valD (rwK p.rw) (.inl key) with
      | none =>
        have nk := no_key e
        have tt := tail G' (fun _ _ => rfl) (by rw [nk]; exact hG)
        rw [nk] at tt
        exact tt
      | some v =>
        have tt := tail (updG G' p.ad (.dic (dropD (rwK p.rw) (.inl key)))) (fun c hc => updG_ne hc) (by rw [updG_same, drop_rwK])
        rw [← drop_rwK] at tt
        exact tt
  · unfold layL
    rw [if_neg (by simp)]
    exact ok.at_ p hp
end K5

end
section
set_option maxHeartbeats 1000000
namespace K5
open PySem PySem.Spec PyProof.Rows L2 Dl Gk
theorem some_of {α : Type} (f : α → D) {base : List α} {ys rest : List D} (p : (ys ++ rest).Perm (base.map f)) (nd : base.Nodup) : ∃ ss : List α, ys = ss.map f ∧ ss.Nodup ∧ ∀ s ∈ ss, s ∈ base := by
  obtain ⟨l, pl, el⟩ := perm_lift f p base rfl
  refine ⟨l.take ys.length, ?_, (pl.nodup_iff.mpr nd).sublist (List.take_sublist ..), fun s hs => pl.mem_iff.mp (List.mem_of_mem_take hs)⟩
  rw [List.map_take, el, List.take_left]
def sd__law_state_columns_drawn : SpD := fun ds G Q => ∃ (p : Addr) (n : Int), ds = [.ref p] ∧ 0 ≤ n ∧ n ≤ 900000 ∧ Pt n G p ∧ Drawn p (n + 10) (fun d => ∃ cs : List (Str × Bool), d = .tup (cs.map colD) ∧ ColsOk cs) G Q
theorem cnames_nd : cnames.Nodup := by decide
theorem r__law_state_columns_drawn : Rd (b__law_state_columns_drawn sd__law_some sd__law_take sd__law_of) n__law_state_columns_drawn sd__law_state_columns_drawn := by
  rintro ds G Q ⟨p, n, rfl, hn0, hn, pt, q⟩
  simp [b__law_state_columns_drawn]
  refine ⟨p, 3, n, rfl, by omega, by omega, by omega, pt, ?_⟩
  rintro d G1 ⟨k, rfl, k0, k1⟩ pt1 o1
  simp
  refine ⟨p, cnames.map D.str, (1 + k).toNat, n + 1, ?_, ?_, by decide, by omega, by omega, pt1, ?_⟩
  · have : (((1 + k).toNat : Nat) : Int) = 1 + k := by omega
    rw [this]; rfl
  · show (1 + k).toNat ≤ 5
    omega
  rintro d2 G2 ⟨ys, rest, rfl, hp, hl⟩ pt2 o2
  obtain ⟨ss, rfl, ssn, ssm⟩ := some_of D.str hp cnames_nd
  rw [List.length_map] at hl
  simp
  refine lcInv (fun items acc G' => ∃ (d : List (Str × Bool)) (r : List Str), ss = d.map (·.1) ++ r ∧ items = r.map D.str ∧ acc = d.map colD ∧ Pt (n + 4 + d.length) G' p ∧ ∀ b, b ≠ p → G' b = G b) ⟨[], ss, rfl, rfl, rfl, pt2.mono (by simp; omega), fun b hb => by rw [o2 b hb, o1 b hb]⟩ ?_ ?_
  · rintro acc G' ⟨d, r, e1, e2, rfl, h1, h2⟩
    have er : r = [] := List.map_eq_nil_iff.mp e2.symm
    subst er
    rw [List.append_nil] at e1
    have hd : d.length ≤ 3 := by
      have := congrArg List.length e1
      rw [List.length_map] at this
      omega
    refine FgQ.of (q _ _ ⟨d, rfl, by rw [← e1]; exact ssn, fun c hc => ?_⟩ (h1.mono (by omega)) h2)
    exact ssm c.1 (by rw [e1]; exact List.mem_map_of_mem (f := (·.1)) hc)
  · rintro x r acc G' N M ⟨d, r', e1, e2, rfl, h1, h2⟩ hN hM
    cases r' with
    | nil => cases e2
    | cons c r' =>
      rw [List.map_cons] at e2
      cases e2
      have hd : d.length ≤ 3 := by
        have := congrArg List.length e1
        rw [List.length_append, List.length_map] at this
        omega
      simp
      refine ⟨p, _, n + 4 + d.length, rfl, by simp, by simp, by omega, h1, ?_⟩
      rintro v G3 hv pt3 o3
      have hb : ∃ b : Bool, v = .str (kindS b) := by
        simp at hv
        rcases hv with e | e
        · exact ⟨true, e⟩
        · exact ⟨false, e⟩
      obtain ⟨b, rfl⟩ := hb
      refine hN _ _ ⟨d ++ [(c, b)], r', by rw [List.map_append, e1, List.append_assoc]; rfl, rfl, by rw [List.map_append]; rfl, ?_, fun x hx => by rw [o3 x hx]; exact h2 x hx⟩
      rw [List.length_append, List.length_singleton]
      exact pt3.mono (by push_cast; omega)
def sd__law_rows_drawn : SpD := fun ds G Q => ∃ (p : Addr) (o : List Tb) (n : Int), ds = [.ref p, ownD o] ∧ OwnOk o ∧ 0 ≤ n ∧ n ≤ 900000 ∧ Pt n G p ∧ Drawn p (n + 100) (fun d => ∃ J : Jn, d = krD J ∧ J.map (·.1) = nf o ∧ KOk J) G Q
theorem r__law_rows_drawn : Rd (b__law_rows_drawn sd__law_state_schema sd__law_state_values_drawn sd__law_take) n__law_rows_drawn sd__law_rows_drawn := by
  rintro ds G Q ⟨p, o, n, rfl, h, hn0, hn, pt, q⟩
  have hl := h.len
  simp [b__law_rows_drawn]
  intro a ha
  have hpa : p ≠ a := fun e => pt.some (by rw [e]; exact ha)
  refine ⟨o, rfl, h, ?_⟩
  simp [scD]
  refine forGo_inv (fun items σ G' => ∃ (d : Jn) (r : List Tb), d.map (·.1) ++ r = nf o ∧ items = r.map tsD ∧ (∃ x y z w, σ = [some (.ref p), x, some (.ref a), y, z, w]) ∧ KOk d ∧ G' a = some (.lst (d.map fun j => .tup [.str j.1.nm, optD j.2])) ∧ Pt (n + 16 * d.length) G' p ∧ ∀ b, b ≠ p → b ≠ a → G' b = G b) ?_ ?_ _ _ _
    ⟨[], nf o, rfl, rfl, ⟨_, _, _, _, rfl⟩, (fun j (hj : j ∈ ([] : Jn)) => by cases hj), updG_same, ?_, fun b _ hb => updG_ne hb⟩
  · rintro σ G' ⟨d, r, e1, e2, ⟨x, y, z, w, rfl⟩, h1, h2, h3, h4⟩
    have er : r = [] := List.map_eq_nil_iff.mp e2.symm
    subst er
    rw [List.append_nil] at e1
    have hd : d.length ≤ 5 := by
      have := congrArg List.length e1
      unfold nf at this
      rw [List.length_map, List.length_map, (srtBy_perm nmK o).length_eq] at this
      omega
    simp [h2]
    refine ⟨fun c => if c = p then G' p else G c, fun c m hc => ?_, ?_⟩
    · replace hc : (if c = p then G' p else G c) = some m := hc
      by_cases hcp : c = p
      · rw [if_pos hcp] at hc; rw [hcp]; exact hc
      · rw [if_neg hcp] at hc
        rw [h4 c hcp (fun e => by rw [e, ha] at hc; cases hc)]; exact hc
    · refine q _ _ ⟨d, rfl, e1, h1⟩ ?_ fun c hc => by simp [hc]
      obtain ⟨u, v, w, e, r⟩ := h3.mono (m := n + 100) (by omega)
      exact ⟨u, v, w, by simp [e], r⟩
  · rintro x r σ G' N ⟨d, r', e1, e2, ⟨x', y, z, w, rfl⟩, h1, h2, h3, h4⟩ hN
    cases r' with
    | nil => cases e2
    | cons t r' =>
      rw [List.map_cons] at e2
      cases e2
      have hd : d.length ≤ 5 := by
        have := congrArg List.length e1
        unfold nf at this
        rw [List.length_append, List.length_map, List.length_map, (srtBy_perm nmK o).length_eq] at this
        omega
      have ht : ∃ u ∈ o, t = sr u := by
        have : t ∈ nf o := by rw [← e1]; exact List.mem_append_right _ List.mem_cons_self
        obtain ⟨u, hu, e⟩ := List.mem_map.mp this
        exact ⟨u, mem_srt.mp hu, e.symm⟩
      obtain ⟨u, hu, eu⟩ := ht
      have hcs : t.cs.length ≤ 5 := by rw [eu]; exact (h.ok u hu).cs.len
      simp [tsD]
      refine ⟨p, _, t.cs, n + 16 * d.length, rfl, .inr rfl, hcs, by omega, h3, ?_⟩
      rintro v G1 ⟨vs, rfl, hv⟩ pt1 o1
      have g1 : G1 a = some (.lst (d.map fun j => .tup [.str j.1.nm, optD j.2])) := by rw [o1 a (Ne.symm hpa)]; exact h2
      simp [g1]
      refine ⟨p, 3, n + 16 * d.length + 15, rfl, by omega, by omega, by omega, pt1, ?_⟩
      rintro v2 G2 ⟨k, rfl, k0, k1⟩ pt2 o2
      have g2 : G2 a = some (.lst (d.map fun j => .tup [.str j.1.nm, optD j.2])) := by rw [o2 a (Ne.symm hpa)]; exact g1
      have fin : ∀ v : Option (List D), (∀ vs, v = some vs → valsOk t.cs vs) → ∀ s1 s2 s3 s4, N [some (.ref p), s1, some (.ref a), s2, s3, s4] (updG G2 a (.lst ((d.map fun j => .tup [.str j.1.nm, optD j.2]) ++ [.tup [.str t.nm, optD v]]))) := fun v hv s1 s2 s3 s4 => by
        refine hN _ _ ⟨d ++ [(t, v)], r', by rw [List.map_append, List.append_assoc]; exact e1, rfl, ⟨_, _, _, _, rfl⟩, fun j hj => ?_, ?_, ?_, fun b hb hba => ?_⟩
        · rcases List.mem_append.mp hj with hj | hj
          · exact h1 j hj
          · simp at hj
            subst hj; exact hv
        · rw [updG_same, List.map_append]; rfl
        · obtain ⟨u, v, w, e, r⟩ := pt2
          refine ⟨u, v, w, by rw [updG_ne hpa]; exact e, ?_⟩
          rw [List.length_append, List.length_singleton]
          refine ⟨r.1, r.2.1, r.2.2.1, r.2.2.2.1, ?_⟩
          have := r.2.2.2.2
          push_cast
          omega
        · rw [updG_ne hba, o2 b hb, o1 b hb]
          exact h4 b hb hba
      simp [Dl.plain, eqv_int, g2]
      by_cases hk : k = 0
      · rw [if_pos hk]
        refine ⟨by omega, ?_⟩
        exact fin none (fun _ e => nomatch e) _ _ _ _
      · rw [if_neg hk]
        refine ⟨by omega, ?_⟩
        exact fin (some vs) (fun _ e => by cases e; exact hv) _ _ _ _
  · obtain ⟨u, v, w, e, r⟩ := pt
    exact ⟨u, v, w, by rw [updG_ne hpa]; exact e, by simpa using r⟩
end K5

end
section
set_option maxHeartbeats 1000000
namespace K5
open PySem PySem.Spec PyProof.Rows L2 Dl Gk
def sd__law_state_changes_drawn : SpD := fun ds G Q => ∃ (p : Addr) (o : List Tb) (n : Int), ds = [.ref p, ownD o, .lst (keys6.map D.int), .int 6] ∧ OwnOk o ∧ 0 ≤ n ∧ n ≤ 900000 ∧ Pt n G p ∧ Drawn p (n + 200) (fun d => ∃ cs : List Ch, d = .tup (cs.map chD) ∧ ChsOk o cs) G Q
theorem val_some {κ α : Type} [DecidableEq κ] {l : List (κ × α)} {k : κ} (h : (valD l k).isSome = true) : k ∈ l.map (·.1) := by
  by_cases hk : k ∈ l.map (·.1)
  · exact hk
  · rw [val_none hk] at h; cases h
theorem r__law_state_changes_drawn : Rd (b__law_state_changes_drawn sd__law_take sd__law_of sd__law_state_values_drawn sd__law_state_changed) n__law_state_changes_drawn sd__law_state_changes_drawn := by
  rintro ds G Q ⟨p, o, n, rfl, h, hn0, hn, pt, q⟩
  simp [b__law_state_changes_drawn]
  intro a ha
  have hpa : p ≠ a := fun e => pt.some (by rw [e]; exact ha)
  refine ⟨p, 7, n, rfl, by omega, by omega, by omega, ?_, ?_⟩
  · obtain ⟨u, v, w, e, r⟩ := pt
    exact ⟨u, v, w, by rw [updG_ne hpa]; exact e, r⟩
  rintro d G1 ⟨m, rfl, m0, m1⟩ pt1 o1
  have g1 : G1 a = some (.lst []) := by rw [o1 a (Ne.symm hpa)]; exact updG_same
  simp
  refine ⟨by omega, by omega, ?_⟩
  obtain ⟨Inv, hInv⟩ : ∃ Inv : List D → Sd → Gp → Prop, Inv = fun items σ G' => ∃ (cs : List Ch), items.length + cs.length ≤ 6 ∧ ChsOk o cs ∧ (∃ x y z w, σ = [some (.ref p), some (ownD (cs.foldl app o)), some (.lst (keys6.map D.int)), some (.int 6), some (.ref a), x, y, z, w]) ∧ G' a = some (.lst (cs.map chD)) ∧ Pt (n + 1 + 20 * cs.length) G' p ∧ ∀ b, b ≠ p → b ≠ a → G' b = G b := ⟨_, rfl⟩
  have finA : ∀ items σ G', Inv items σ G' → dRet (dCa rTupleD (dCons (dVar 4) dNil)) { nx := fun x G' => FgQ Q D.non G', rt := FgQ Q } σ G' := by
    intro items σ G' hI
    rw [hInv] at hI
    obtain ⟨cs, e1, h1, ⟨x, y, z, w, rfl⟩, h2, h3, h4⟩ := hI
    simp [h2]
    refine ⟨fun c => if c = p then G' p else G c, fun c m hc => ?_, ?_⟩
    · replace hc : (if c = p then G' p else G c) = some m := hc
      by_cases hcp : c = p
      · rw [if_pos hcp] at hc; rw [hcp]; exact hc
      · rw [if_neg hcp] at hc
        rw [h4 c hcp (fun e => by rw [e, ha] at hc; cases hc)]; exact hc
    · refine q _ _ ⟨cs, rfl, h1⟩ ?_ fun c hc => by simp [hc]
      obtain ⟨u, v, w, e, r⟩ := h3.mono (m := n + 200) (by omega)
      exact ⟨u, v, w, by simp [e], r⟩
  refine forGo_inv Inv (finA []) ?_ _ _ _ ?_
  · rintro x r σ G' N hI hN
    have hbk := finA _ _ _ hI
    rw [hInv] at hI
    obtain ⟨cs, e1, h1, ⟨x', y, z, w, rfl⟩, h2, h3, h4⟩ := hI
    rw [List.length_cons] at e1
    have ho' := own_fold h h1
    obtain ⟨o', eo⟩ : ∃ o', o' = cs.foldl app o := ⟨_, rfl⟩
    rw [← eo] at ho' hbk ⊢
    have hl' := ho'.len
    have ck := colsK_keys o'
    have hl2 : (colsK o').length < 64 := by unfold colsK; rw [List.length_map]; omega
    simp [ownD, own_cols, -List.map_map, ck, names_srt, hl2, all_inr]
    by_cases hem : colsK o' = []
    · rw [if_pos hem]
      simp at hbk
      exact hbk
    rw [if_neg hem]
    have hne : o' ≠ [] := fun e => hem (by rw [e]; rfl)
    have hpos : 0 < o'.length := List.length_pos_iff.mpr hne
    refine ⟨p, _, n + 1 + 20 * cs.length, rfl, ?_, ?_, by omega, h3, ?_⟩
    · rw [List.length_map, (srtBy_perm nmK o').length_eq]; exact hpos
    · rw [List.length_map, (srtBy_perm nmK o').length_eq]; omega
    rintro v1 G2 hv1 pt2 o2
    obtain ⟨t, ht, rfl⟩ := List.mem_map.mp hv1
    replace ht := mem_srt.mp ht
    refine ⟨p, keys6.map D.int, n + 1 + 20 * cs.length + 1, rfl, by decide, by decide, by omega, pt2, ?_⟩
    rintro v2 G3 hv2 pt3 o3
    obtain ⟨k, hk, rfl⟩ := List.mem_map.mp hv2
    have ec := cols_val ho' ht
    have er := rows_val ho' ht
    simp [own_cols, ec]
    refine ⟨p, _, t.cs, n + 1 + 20 * cs.length + 2, rfl, .inl rfl, (ho'.ok t ht).cs.len, by omega, pt3.mono (by omega), ?_⟩
    rintro v3 G4 ⟨vs, rfl, hvs⟩ pt4 o4
    have g4 : ∀ G5 : Gp, (∀ b, b ≠ p → G5 b = G4 b) → G5 a = some (.lst (cs.map chD)) := fun G5 o5 => by
      rw [o5 a (Ne.symm hpa), o4 a (Ne.symm hpa), o3 a (Ne.symm hpa), o2 a (Ne.symm hpa)]; exact h2
    -- the end of both ways
    have fin : ∀ (c : Ch) (G5 : Gp), ChOk o' c → (∀ b, b ≠ p → G5 b = G4 b) → Pt (n + 1 + 20 * cs.length + 18) G5 p → ∀ u1 u2 u3 u4, N [some (.ref p), some (ownD (app o' c)), some (.lst (keys6.map D.int)), some (.int 6), some (.ref a), u1, u2, u3, u4] (updG G5 a (.lst (cs.map chD ++ [chD c]))) := fun c G5 hc o5 pt5 u1 u2 u3 u4 => by
      refine hN _ _ ?_
      rw [hInv]
      refine ⟨cs ++ [c], by rw [List.length_append, List.length_singleton]; omega, h1.snoc (by rw [← eo]; exact hc), ⟨u1, u2, u3, u4, by rw [List.foldl_append, ← eo]; rfl⟩, ?_, ?_, fun b hb hba => ?_⟩
      · rw [updG_same, List.map_append]; rfl
      · obtain ⟨u, v, w, e, r⟩ := pt5
        refine ⟨u, v, w, by rw [updG_ne hpa]; exact e, ?_⟩
        rw [List.length_append, List.length_singleton]
        refine ⟨r.1, r.2.1, r.2.2.1, r.2.2.2.1, ?_⟩
        have := r.2.2.2.2
        push_cast
        omega
      · rw [updG_ne hba, o5 b hb, o4 b hb, o3 b hb, o2 b hb]
        exact h4 b hb hba
    have put : ∀ (G5 : Gp), (∀ b, b ≠ p → G5 b = G4 b) → Pt (n + 1 + 20 * cs.length + 18) G5 p → ∀ u1 u2 u3 u4, N [some (.ref p), some (ownD (app o' ⟨t.nm, k, some vs⟩)), some (.lst (keys6.map D.int)), some (.int 6), some (.ref a), u1, u2, u3, u4] (updG G5 a (.lst (cs.map chD ++ [chD ⟨t.nm, k, some vs⟩]))) := fun G5 => fin ⟨t.nm, k, some vs⟩ G5 ⟨t, ht, rfl, hk, hvs⟩
    simp [own_rows, er]
    have hcl : cs.length < 100000 := by omega
    by_cases hs : (valD (rwK t.rw) (.inl k)).isSome = true
    · rw [if_pos hs]
      refine ⟨p, 3, n + 1 + 20 * cs.length + 17, rfl, by omega, by omega, by omega, pt4.mono (by omega), ?_⟩
      rintro v5 G5 ⟨j, rfl, j0, j1⟩ pt5 o5
      simp [Dl.plain, eqv_int, g4 G5 o5, hcl]
      have hkm : k ∈ t.rw.map (·.1) := by
        have := val_some hs
        rw [rwK_keys] at this
        obtain ⟨i, hi, e⟩ := List.mem_map.mp this
        have e' : i = k := Sum.inl.inj e
        rw [← e']; exact hi
      by_cases hj : j = 0
      · rw [if_pos hj]
        exact ⟨o', ⟨t.nm, k, none⟩, rfl, ho', ⟨t, ht, rfl, hk, hkm⟩, by simpa [atI0, chD] using fin ⟨t.nm, k, none⟩ G5 ⟨t, ht, rfl, hk, hkm⟩ o5 (pt5.mono (by omega)) _ _ _ _⟩
      · rw [if_neg hj]
        exact ⟨o', ⟨t.nm, k, some vs⟩, rfl, ho', ⟨t, ht, rfl, hk, hvs⟩, by simpa [atI0, chD] using put G5 o5 (pt5.mono (by omega)) _ _ _ _⟩
    · rw [if_neg hs]
      simp [g4 G4 (fun _ _ => rfl), hcl]
      exact ⟨o', ⟨t.nm, k, some vs⟩, rfl, ho', ⟨t, ht, rfl, hk, hvs⟩, by simpa [atI0, chD] using put G4 (fun _ _ => rfl) (pt4.mono (by omega)) _ _ _ _⟩
  · rw [hInv]
    refine ⟨[], ?_, trivial, ⟨_, _, _, _, rfl⟩, g1, pt1.mono (by simp), fun b hb hba => by rw [o1 b hb]; exact updG_ne hba⟩
    simp [rangeD]
    omega
end K5

end
section
set_option maxHeartbeats 1000000
namespace K5
open PySem PySem.Spec PyProof.Rows L2 Dl Gk
/-! ### the same -/
def Tp : Nat → D → Prop
  | _, .non => True
  | _, .bl _ => True
  | _, .int _ => True
  | _, .str _ => True
  | m + 1, .tup ds => ∀ x ∈ ds, Tp m x
  | _, _ => False
def sdS : Nat → SpD
  | 0 => fun _ _ _ => False
  | m + 1 => tr fun ds => ∃ d, ds = [d, d] ∧ Tp m d
theorem zip_self (xs : List D) : zipD xs xs = xs.map fun x => .tup [x, x] := by
  have := zip_map id id xs
  rw [List.map_id] at this
  exact this
theorem eqv_bl (a b : Bool) : eqvD (.bl a) (.bl b) = (a == b) := rfl
theorem r__law_same (m : Nat) : Rd (b__law_same (sdS m)) n__law_same (sdS (m + 1)) := by
  rintro ds G Q ⟨⟨d, rfl, h⟩, q⟩
  cases d with
  | non => simpa [b__law_same, Dl.plain, eqv_bl, eqvD, D.toP, PyData.eqv] using FgQ.of q
  | bl b => simpa [b__law_same, Dl.plain, eqv_bl, eqvD, D.toP, PyData.eqv] using FgQ.of q
  | int i => simpa [b__law_same, Dl.plain, eqv_bl, eqvD, D.toP, PyData.eqv] using FgQ.of q
  | str s => simpa [b__law_same, Dl.plain, eqv_bl, eqvD, D.toP, PyData.eqv] using FgQ.of q
  | tup xs =>
    cases m with
    | zero => exact h.elim
    | succ m =>
      have e : eqvD (.int xs.length) (.int xs.length) = true := by rw [eqv_int]; simp
      simp [b__law_same, Dl.plain, e, zip_self]
      refine lcMap (fun x => D.tup [x, x]) (fun _ => .bl true) xs (fun x hx Q' hq => ?_) ?_
      · simp
        exact ⟨⟨x, rfl, h x hx⟩, hq⟩
      · simpa using FgQ.of q
  | ty n => cases m <;> exact h.elim
  | lst l => cases m <;> exact h.elim
  | dic l => cases m <;> exact h.elim
  | ref a => cases m <;> exact h.elim
theorem tp_val {b : Bool} {v : D} (h : valOk b v) (m : Nat) : Tp m v := by
  rcases h with rfl | ⟨_, i, rfl, _⟩ | ⟨_, s, _, rfl⟩ <;> cases m <;> trivial
theorem tp_vals {cs : List (Str × Bool)} {vs : List D} (h : valsOk cs vs) (m : Nat) : ∀ v ∈ vs, Tp m v := by
  induction vs generalizing cs with
  | nil => intro v hv; cases hv
  | cons x vs ih =>
    cases cs with
    | nil => exact h.elim
    | cons c cs =>
      intro v hv
      rcases List.mem_cons.mp hv with rfl | hv
      · exact tp_val h.1 m
      · exact ih h.2 v hv
theorem tp_str (s : Str) (m : Nat) : Tp m (.str s) := by cases m <;> trivial
theorem tp_int (s : Int) (m : Nat) : Tp m (.int s) := by cases m <;> trivial
theorem tp_st {S : List Tb} (h : ∀ t ∈ S, ∀ r ∈ t.rw, valsOk t.cs r.2) : Tp 5 (stD S) := by
  show ∀ x ∈ S.map tbD, Tp 4 x
  intro x hx
  obtain ⟨t, ht, rfl⟩ := List.mem_map.mp hx
  show ∀ y ∈ [D.str t.nm, .tup (t.rw.map rowD)], Tp 3 y
  intro y hy
  simp at hy
  rcases hy with rfl | rfl
  · exact tp_str _ _
  · show ∀ z ∈ t.rw.map rowD, Tp 2 z
    intro z hz
    obtain ⟨r, hr, rfl⟩ := List.mem_map.mp hz
    show ∀ w ∈ [D.int r.1, .tup r.2], Tp 1 w
    intro w hw
    simp at hw
    rcases hw with rfl | rfl
    · exact tp_int _ _
    · exact tp_vals (h t ht r hr) 0
theorem tp_opt {cs : List (Str × Bool)} {v : Option (List D)} (h : ∀ vs, v = some vs → valsOk cs vs) (m : Nat) : Tp (m + 1) (optD v) := by
  cases v with
  | none => trivial
  | some vs => exact tp_vals (h vs rfl) m
theorem tp_kr {J : Jn} (h : KOk J) : Tp 5 (krD J) := by
  show ∀ x ∈ J.map (fun j => D.tup [.str j.1.nm, optD j.2]), Tp 4 x
  intro x hx
  obtain ⟨j, hj, rfl⟩ := List.mem_map.mp hx
  show ∀ y ∈ [D.str j.1.nm, optD j.2], Tp 3 y
  intro y hy
  simp at hy
  rcases hy with rfl | rfl
  · exact tp_str _ _
  · exact tp_opt (h j hj) 2
/-! ### own, in order -/
theorem rw_up {rw : Rows} (h : (rw.map (·.1)).Nodup) : (srtR rw).Pairwise fun a b => a.1 < b.1 := by
  have h1 : (srtR rw).Pairwise fun a b => ltKey (.inl b.1) (.inl a.1) = false := srtBy_srtd _ rw
  have h2 : (srtR rw).Pairwise fun a b => a.1 ≠ b.1 := by
    have := ((srtBy_perm (fun r : Int × List D => (Sum.inl r.1 : Key)) rw).map (·.1)).nodup_iff.mpr h
    rw [List.Nodup, List.pairwise_map] at this
    exact this
  refine (h1.and h2).imp fun {a b} ⟨q, ne⟩ => ?_
  have : ¬ b.1 < a.1 := of_decide_eq_false q
  omega
theorem sr_ok {t : Tb} (h : TbOk t) : TbOk (sr t) := by
  refine ⟨h.nm, h.cs, ?_, fun r hr => h.rw r (srtR_mem.mp hr)⟩
  exact ((srtBy_perm (fun r : Int × List D => (Sum.inl r.1 : Key)) t.rw).map (·.1)).nodup_iff.mpr h.nd
theorem nf_ok {o : List Tb} (h : OwnOk o) : SOk (nf o) := by
  refine ⟨?_, fun t ht => ?_, fun t ht => ?_⟩
  · unfold nf
    rw [List.pairwise_map]
    have h1 : (srtBy nmK o).Pairwise fun a b => ltKey (nmK b) (nmK a) = false := srtBy_srtd nmK o
    have h2 : (srtBy nmK o).Pairwise fun a b => a.nm ≠ b.nm := by
      have := ((srtBy_perm nmK o).map (·.nm)).nodup_iff.mpr h.nd
      rw [List.Nodup, List.pairwise_map] at this
      exact this
    refine (h1.and h2).imp fun {a b} ⟨q, ne⟩ => ?_
    show ltKey (nmK a) (nmK b) = true
    cases e : ltKey (nmK a) (nmK b) with
    | true => rfl
    | false => exact absurd (Sum.inr.inj (ltKey_eq e q)) ne
  · obtain ⟨u, hu, rfl⟩ := List.mem_map.mp ht
    exact sr_ok (h.ok u (mem_srt.mp hu))
  · obtain ⟨u, hu, rfl⟩ := List.mem_map.mp ht
    exact rw_up (h.ok u (mem_srt.mp hu)).nd
theorem look_ok {t : Tb} (h : TbOk t) (k : Int) : ∀ vs, look k t.rw = some vs → valsOk t.cs vs := by
  intro vs e
  unfold look at e
  cases q : t.rw.find? (fun r => decide (r.1 = k)) with
  | none => rw [q] at e; cases e
  | some r =>
    rw [q] at e
    cases e
    exact (h.rw r (List.mem_of_find?_eq_some q)).2
theorem under_ok {S : List Tb} (h : ∀ t ∈ S, TbOk t) (k : Int) : KOk (under k S) := by
  intro j hj vs e
  obtain ⟨t, ht, rfl⟩ := List.mem_map.mp hj
  exact look_ok (h t ht) k vs e
/-! ### what lies under keys is right -/
def sd__law_are_keys_right : SpD := tr fun ds => ∃ o, ds = [ownD o, scD (nf o), stD (nf o), .lst (keys6.map D.int)] ∧ OwnOk o
theorem r__law_are_keys_right : Rd (b__law_are_keys_right (sdS 6) sd__law_state_keys sd_keys_of sd__law_state_keyed sd_key_rows sd_row_in) n__law_are_keys_right sd__law_are_keys_right := by
  rintro ds G Q ⟨⟨o, rfl, h⟩, q⟩
  have hS := nf_ok h
  simp [b__law_are_keys_right]
  refine ⟨_, rfl, fun t ht r hr => ((hS.ok t ht).rw r hr).1, ?_⟩
  refine ⟨o, rfl, h, ?_⟩
  simp
  refine ⟨⟨_, rfl, ?_⟩, ?_⟩
  · show ∀ x ∈ (keysL (nf o)).map D.int, Tp 4 x
    intro x hx
    obtain ⟨k, _, rfl⟩ := List.mem_map.mp hx
    exact tp_int _ _
  simp
  refine forGo_all (fun σ => ∃ x y z, σ = [some (ownD o), some (scD (nf o)), some (stD (nf o)), some (.lst (keys6.map D.int)), x, y, z]) (f := D.int) keys6 (fun σ _ => by simpa using FgQ.of q) (fun k hk σ N ⟨x, y, z, e⟩ hN => ?_) _ ⟨_, _, _, rfl⟩
  subst e
  simp
  refine ⟨_, k, rfl, hk, fun t ht => (hS.ok t ht).nd, ?_⟩
  refine ⟨o, k, rfl, h, ?_⟩
  refine ⟨⟨_, rfl, tp_kr (under_ok hS.ok k)⟩, ?_⟩
  simp [scD]
  refine forGo_all (fun σ => ∃ y z, σ = [some (ownD o), some (scD (nf o)), some (stD (nf o)), some (.lst (keys6.map D.int)), some (.int k), y, z]) (nf o) (fun σ ⟨y, z, e⟩ => by subst e; exact hN _ ⟨_, _, _, rfl⟩) (fun t ht σ N' ⟨y, z, e⟩ hN' => ?_) _ ⟨_, _, rfl⟩
  subst e
  simp [tsD]
  refine ⟨_, t, k, rfl, hS, ht, hk, ?_⟩
  obtain ⟨u, hu, eu⟩ := List.mem_map.mp ht
  replace hu := mem_srt.mp hu
  have en : t.nm = u.nm := by rw [← eu]; rfl
  have er : t.rw = srtR u.rw := by rw [← eu]; rfl
  have ev := rows_val h hu
  rw [← en] at ev
  have el : (valD (rwK u.rw) (.inl k)).getD .non = optD (look k t.rw) := by
    rw [look_val, er, look_srt (h.ok u hu).nd]
  simp [ownD, own_rows, ev, el]
  refine ⟨⟨_, rfl, tp_opt (look_ok (hS.ok t ht) k) 4⟩, ?_⟩
  simp
  exact hN' _ ⟨_, _, rfl⟩
end K5

end
section
set_option maxHeartbeats 1000000
namespace K5
open PySem PySem.Spec PyProof.Rows L2 Dl Gk
theorem names5_nd : names5.Nodup := by decide
def sd__law_scene : SpD := fun ds G Q => ∃ (p : Addr) (n : Int), ds = [.ref p, .lst (keys6.map D.int)] ∧ 0 ≤ n ∧ n ≤ 800000 ∧ Pt n G p ∧ Drawn p (n + 1000) (fun d => ∃ o, d = ownD o ∧ OwnOk o) G Q
theorem ints_fix (l : List Int) : Fix (.lst (l.map D.int)) := fix_lst fun x hx => by
  obtain ⟨i, _, rfl⟩ := List.mem_map.mp hx
  exact fun _ => rfl
theorem r__law_scene : Rd (b__law_scene sd__law_some sd__law_of sd__law_take sd__law_state_columns_drawn sd__law_state_dealt sd__law_state_changes_drawn) n__law_scene sd__law_scene := by
  rintro ds G Q ⟨p, n, rfl, hn0, hn, pt, q⟩
  simp [b__law_scene]
  refine ⟨p, _, n, rfl, by simp, by simp, by omega, pt, ?_⟩
  rintro v G1 hv pt1 o1
  have hm : ∃ m : Nat, v = .int (m : Nat) ∧ m ≤ 4 := by
    simp at hv
    rcases hv with e | e | e | e | e
    · exact ⟨2, e, by omega⟩
    · exact ⟨1, e, by omega⟩
    · exact ⟨3, e, by omega⟩
    · exact ⟨4, e, by omega⟩
    · exact ⟨0, e, by omega⟩
  obtain ⟨m, rfl, hm4⟩ := hm
  refine ⟨p, names5.map D.str, m, n + 1, rfl, (by show m ≤ 5; omega), by decide, by omega, by omega, pt1, ?_⟩
  rintro d2 G2 ⟨ys, rest, rfl, hp, hl⟩ pt2 o2
  obtain ⟨ss, rfl, ssn, ssm⟩ := some_of D.str hp names5_nd
  rw [List.length_map] at hl
  simp
  intro c hc
  have hpc : p ≠ c := fun e => pt2.some (by rw [e]; exact hc)
  refine lcMap D.str (fun s => .tup [.str s, .dic []]) ss (fun s hs Q' hq => by simpa using hq) ?_
  refine ⟨_, pairs_key (fun s : Str => (Sum.inr s : Key)) (fun _ => D.dic []) ss, ?_⟩
  have nk : ((ss.map fun s => ((Sum.inr s : Key), D.dic [])).map (·.1)).Nodup := by
    rw [List.map_map]
    exact nd_inr ssn
  have e6 : ∀ C R : D, mergeD [] [(Sum.inr ("columns" : PySem.Str), C), (Sum.inr ("rows" : PySem.Str), R)] = ownL C R := fun C R => merge_nil (by simp; decide)
  rw [merge_nil nk]
  simp [e6, dLk, -Option.map_some]
  refine forGo_inv (fun items σ G' => ∃ (d : List Tb) (r : List Str), d.map (·.nm) ++ r = ss ∧ items = r.map D.str ∧ (∃ x y, σ = [some (.ref p), some (.lst (keys6.map D.int)), some (.lst (ss.map D.str)), some (.dic (ownL (.ref c) (.dic (ss.map fun s => (.inr s, .dic []))))), x, y]) ∧ (∀ t ∈ d, t.rw = [] ∧ ColsOk t.cs) ∧
      G' c = some (.dic (colsK d)) ∧ Pt (n + 10 + 12 * d.length) G' p ∧ ∀ b, b ≠ p → b ≠ c → G' b = G b) ?_ ?_ _ _ _ ⟨[], ss, rfl, rfl, ⟨_, _, rfl⟩, (fun t (ht : t ∈ ([] : List Tb)) => by cases ht), updG_same, ?_, fun b hb hbc => (updG_ne hbc).trans ((o2 b hb).trans (o1 b hb))⟩
  · rintro σ G' ⟨d, r, e1, e2, ⟨x, y, rfl⟩, h1, h2, h3, h4⟩
    have er : r = [] := List.map_eq_nil_iff.mp e2.symm
    subst er
    rw [List.append_nil] at e1
    have hd : d.length ≤ 4 := by
      have := congrArg List.length e1
      rw [List.length_map] at this
      omega
    have hO : OwnOk d := by
      refine ⟨by rw [e1]; exact ssn, fun t ht => ⟨ssm _ (by rw [← e1]; exact List.mem_map_of_mem ht), (h1 t ht).2, ?_, ?_⟩⟩
      · rw [(h1 t ht).1]; exact List.Pairwise.nil
      · rw [(h1 t ht).1]; intro r hr; cases hr
    have hR : (ss.map fun s => ((Sum.inr s : Key), D.dic [])) = rowsK d := by
      unfold rowsK
      rw [← e1, List.map_map]
      refine List.map_congr_left fun t ht => ?_
      rw [(h1 t ht).1]; rfl
    have fR : Fix (.dic (rowsK d)) := fix_dic fun q hq => by
      obtain ⟨t, ht, rfl⟩ := List.mem_map.mp hq
      show Fix (.dic (rwK t.rw))
      rw [(h1 t ht).1]
      exact fun _ => rfl
    have fT : Fix (.lst (ss.map D.str)) := fix_lst fun x hx => by
      obtain ⟨i, _, rfl⟩ := List.mem_map.mp hx
      exact fun _ => rfl
    rw [hR]
    refine .stepD c (.dic (colsK d)) h2 (.done ?_)
    have eσ : subSd c (MO.dic (colsK d)).toD [some (.ref p), some (.lst (keys6.map D.int)), some (.lst (ss.map D.str)), some (.dic (ownL (.ref c) (.dic (rowsK d)))), x, y] =
        [some (.ref p), some (.lst (keys6.map D.int)), some (.lst (ss.map D.str)), some (ownD d), x.map fun z => D.sub c (.dic (colsK d)) z, y.map fun z => D.sub c (.dic (colsK d)) z] := by
      have s1 : D.sub c (.dic (colsK d)) (.ref p) = .ref p := by show at1 _ _ _ = _; unfold at1; rw [if_neg hpc]
      have s2 : D.sub c (.dic (colsK d)) (.lst (keys6.map D.int)) = .lst (keys6.map D.int) := ints_fix _ _
      have s3 : D.sub c (.dic (colsK d)) (.lst (ss.map D.str)) = .lst (ss.map D.str) := fT _
      have s4 : D.sub c (.dic (colsK d)) (.dic (ownL (.ref c) (.dic (rowsK d)))) = ownD d := by
        show D.dic (D.mpk _ (ownL _ _)) = _
        rw [mpk_map]
        unfold ownL ownD ownL
        rw [List.map_cons, List.map_cons]
        have a1 : (D.ref c).mp (at1 c (.dic (colsK d))) = .dic (colsK d) := by show at1 _ _ _ = _; unfold at1; rw [if_pos rfl]
        rw [a1, fR]; rfl
      unfold subSd
      simp only [List.map_cons, List.map_nil, Option.map_some]
      rw [show (MO.dic (colsK d)).toD = .dic (colsK d) from rfl, s1, s2, s3, s4]
    rw [eσ]
    have pt' : Pt (n + 100) (delG G' c) p := by
      obtain ⟨u, v, w, e, r⟩ := h3.mono (m := n + 100) (by omega)
      exact ⟨u, v, w, by rw [delG_ne hpc]; exact e, r⟩
    have ot' : ∀ b, b ≠ p → b ≠ c → delG G' c b = G b := fun b hb hbc => by rw [delG_ne hbc]; exact h4 b hb hbc
    simp
    refine forGo_inv (fun items σ G' => ∃ o', OwnOk o' ∧ items.length ≤ 2 ∧ (∃ x y, σ = [some (.ref p), some (.lst (keys6.map D.int)), some (.lst (ss.map D.str)), some (ownD o'), x, y]) ∧ Pt (n + 100 + 200 * (2 - items.length)) G' p ∧ ∀ b, b ≠ p → b ≠ c → G' b = G b) ?_ ?_ _ _ _ ⟨d, hO, by simp [rangeD], ⟨_, _, rfl⟩, by simpa [rangeD] using pt', ot'⟩
    · rintro σ G3 ⟨o', ho', _, ⟨x, y, rfl⟩, pt3, ot3⟩
      simp
      have hcn : G c = none := by
        rw [← o1 c (Ne.symm hpc), ← o2 c (Ne.symm hpc)]; exact hc
      refine ⟨fun b => if b = p then G3 p else G b, fun b m' hb => ?_, ?_⟩
      · replace hb : (if b = p then G3 p else G b) = some m' := hb
        by_cases hbp : b = p
        · rw [if_pos hbp] at hb; rw [hbp]; exact hb
        · rw [if_neg hbp] at hb
          rw [ot3 b hbp (fun e => by rw [e, hcn] at hb; cases hb)]; exact hb
      · refine q _ _ ⟨o', rfl, ho'⟩ ?_ fun b hb => by simp [hb]
        obtain ⟨u, v, w, e, r⟩ := pt3.mono (m := n + 1000) (by simp; omega)
        exact ⟨u, v, w, by simp [e], r⟩
    · rintro x' r σ G3 N ⟨o', ho', hlen, ⟨x, y, rfl⟩, pt3, ot3⟩ hN
      rw [List.length_cons] at hlen pt3
      simp
      refine ⟨p, o', n + 100 + 200 * (2 - ((r.length + 1 : Nat) : Int)), rfl, ho', by omega, by omega, pt3, ?_⟩
      rintro v4 G4 ⟨cs, rfl, hcs⟩ pt4 o4
      refine ⟨o', cs, rfl, ho', hcs, ?_⟩
      simp [atI0]
      refine hN _ _ ⟨cs.foldl app o', own_fold ho' hcs, by omega, ⟨_, _, rfl⟩, pt4.mono (by push_cast; omega), fun b hb hbc => by rw [o4 b hb]; exact ot3 b hb hbc⟩
  · rintro x r σ G' N ⟨d, r', e1, e2, ⟨x', y, rfl⟩, h1, h2, h3, h4⟩ hN
    cases r' with
    | nil => cases e2
    | cons s r' =>
      rw [List.map_cons] at e2
      cases e2
      have hd : d.length ≤ 4 := by
        have := congrArg List.length e1
        rw [List.length_append, List.length_map] at this
        omega
      have hsn : s ∉ d.map (·.nm) := fun z => by
        have nd := ssn
        rw [← e1] at nd
        exact (List.nodup_append.mp nd).2.2 s z s List.mem_cons_self rfl
      have fin : ∀ (cs : List (Str × Bool)) (G5 : Gp), ColsOk cs → (∀ b, b ≠ p → G5 b = G' b) → Pt (n + 10 + 12 * d.length + 12) G5 p → G5 c = some (.dic (colsK d)) ∧ (colsK d).length < 100000 ∧ ∀ u v, N [some (.ref p), some (.lst (keys6.map D.int)), some (.lst (ss.map D.str)), some (.dic (ownL (.ref c) (.dic (ss.map fun s => (.inr s, .dic []))))), u, v] (updG G5 c (.dic (putD (colsK d) (.inr s) (.lst (cs.map colD))))) := fun cs G5 hcs o5 pt5 => by
        refine ⟨by rw [o5 c (Ne.symm hpc)]; exact h2, by unfold colsK; rw [List.length_map]; omega, fun u v => ?_⟩
        have e5 : putD (colsK d) (.inr s) (.lst (cs.map colD)) = colsK (d ++ [⟨s, cs, []⟩]) := by
          rw [putD_new]
          · unfold colsK; rw [List.map_append]; rfl
          · rw [colsK_keys]
            intro z
            obtain ⟨i, hi, e⟩ := List.mem_map.mp z
            exact hsn (by rw [← Sum.inr.inj e]; exact hi)
        rw [e5]
        refine hN _ _ ⟨d ++ [⟨s, cs, []⟩], r', by rw [List.map_append, List.append_assoc]; exact e1, rfl, ⟨u, v, rfl⟩, fun t ht => ?_, updG_same, ?_, fun b hb hbc => by rw [updG_ne hbc, o5 b hb]; exact h4 b hb hbc⟩
        · rcases List.mem_append.mp ht with ht | ht
          · exact h1 t ht
          · simp at ht
            subst ht; exact ⟨rfl, hcs⟩
        · obtain ⟨u, v, w, e, r⟩ := pt5
          refine ⟨u, v, w, by rw [updG_ne hpc]; exact e, ?_⟩
          rw [List.length_append, List.length_singleton]
          refine ⟨r.1, r.2.1, r.2.2.1, r.2.2.2.1, ?_⟩
          have := r.2.2.2.2
          push_cast
          omega
      simp
      refine ⟨p, 6, n + 10 + 12 * d.length, rfl, by omega, by omega, by omega, h3, ?_⟩
      rintro v3 G3 ⟨k, rfl, k0, k1⟩ pt3 o3
      by_cases hk : 0 < k
      · simp [hk]
        refine ⟨p, n + 10 + 12 * d.length + 1, rfl, by omega, by omega, pt3, ?_⟩
        rintro v4 G4 ⟨cs, rfl, hcs⟩ pt4 o4
        obtain ⟨f1, f2, f3⟩ := fin cs G4 hcs (fun b hb => by rw [o4 b hb, o3 b hb]) (pt4.mono (by omega))
        simp [own_cols]
        exact ⟨_, f1, f2, f3 _ _⟩
      · simp [hk]
        obtain ⟨f1, f2, f3⟩ := fin [] G3 ⟨List.Pairwise.nil, fun c hc => by cases hc⟩ o3 (pt3.mono (by omega))
        simp [own_cols]
        exact ⟨_, f1, f2, f3 _ _⟩
  · obtain ⟨u, v, w, e, r⟩ := pt2.mono (m := n + 10) (by omega)
    exact ⟨u, v, w, by rw [updG_ne hpc]; exact e, by simpa using r⟩
end K5

end
section
set_option maxHeartbeats 1000000
namespace K5
open PySem PySem.Spec PyProof.Rows L2 Dl Gk
/-! ### rows, in order, are told by their members -/
theorem rw_uniq : ∀ {l m : Rows}, l.Pairwise (fun a b => a.1 < b.1) → m.Pairwise (fun a b => a.1 < b.1) → (∀ r, r ∈ l ↔ r ∈ m) → l = m
  | [], [], _, _, _ => rfl
  | [], y :: m, _, _, h => absurd ((h y).mpr List.mem_cons_self) (by simp)
  | x :: l, [], _, _, h => absurd ((h x).mp List.mem_cons_self) (by simp)
  | x :: l, y :: m, h1, h2, h => by
    obtain ⟨a1, a2⟩ := List.pairwise_cons.mp h1
    obtain ⟨b1, b2⟩ := List.pairwise_cons.mp h2
    have e : x = y := by
      rcases List.mem_cons.mp ((h x).mp List.mem_cons_self) with e | hx
      · exact e
      · rcases List.mem_cons.mp ((h y).mpr List.mem_cons_self) with e | hy
        · exact e.symm
        · have := b1 x hx
          have := a1 y hy
          omega
    subst e
    rw [rw_uniq a2 b2 fun k => ⟨fun hk => ?_, fun hk => ?_⟩]
    · rcases List.mem_cons.mp ((h k).mp (List.mem_cons_of_mem _ hk)) with e | z
      · have := a1 k hk; rw [e] at this; omega
      · exact z
    · rcases List.mem_cons.mp ((h k).mpr (List.mem_cons_of_mem _ hk)) with e | z
      · have := b1 k hk; rw [e] at this; omega
      · exact z
theorem newRw_iff {k : Int} {v : Option (List D)} {rw : Rows} {r : Int × List D} : r ∈ newRw k v rw ↔ (r ∈ rw ∧ r.1 ≠ k) ∨ ∃ vs, v = some vs ∧ r = (k, vs) := by
  cases v with
  | none =>
    show r ∈ rw.filter _ ↔ _
    rw [List.mem_filter]
    simp
  | some vs =>
    show r ∈ (rw.filter _) ++ [(k, vs)] ↔ _
    rw [List.mem_append, List.mem_filter]
    simp
theorem srtR_lay {rw : Rows} (h : (rw.map (·.1)).Nodup) (k : Int) (v : Option (List D)) : srtR (newRw k v (srtR rw)) = srtR (newRw k v rw) := by
  have h' : ((srtR rw).map (·.1)).Nodup := ((srtBy_perm (fun r : Int × List D => (Sum.inl r.1 : Key)) rw).map (·.1)).nodup_iff.mpr h
  refine rw_uniq (rw_up (newRw_nd h')) (rw_up (newRw_nd h)) fun r => ?_
  rw [srtR_mem, srtR_mem, newRw_iff, newRw_iff, srtR_mem]
/-- told of laid is what the package makes -/
theorem told_laid {o : List Tb} {J : Jn} {k : Int} (h : OwnOk o) (e : J.map (·.1) = nf o) : stD (J.map (updT k)) = stD (nf (lay J k o)) := by
  have nd : (J.map fun j => j.1.nm).Nodup := by
    have := (nf_ok h).nd
    rw [← e, List.map_map] at this
    exact this
  have e1 : J.map (updT k) = (J.map (·.1)).map fun u => { u with rw := srtR (newRw k (vOf J u.nm) u.rw) } := by
    rw [List.map_map]
    refine List.map_congr_left fun j hj => ?_
    show updT k j = { j.1 with rw := srtR (newRw k (vOf J j.1.nm) j.1.rw) }
    rw [vOf_mem nd hj]; rfl
  have e2 : nf (lay J k o) = (srtBy nmK o).map fun t => sr (layT J k t) := by
    unfold nf lay
    rw [srtBy_map nmK (layT J k), List.map_map]; rfl
  rw [e1, e2, e]
  unfold nf
  rw [List.map_map]
  congr 1
  refine List.map_congr_left fun t ht => ?_
  show ({ sr t with rw := srtR (newRw k (vOf J t.nm) (srtR t.rw)) } : Tb) = { t with rw := srtR (newRw k (vOf J t.nm) t.rw) }
  rw [srtR_lay (h.ok t (mem_srt.mp ht)).nd]; rfl
theorem jok_of {o : List Tb} {J : Jn} (h : OwnOk o) (e : J.map (·.1) = nf o) (hk : KOk J) : JOk o J := by
  have en : (J.map fun j => j.1.nm) = (srtBy nmK o).map (·.nm) := by
    have : (J.map fun j => j.1.nm) = (J.map (·.1)).map (·.nm) := by rw [List.map_map]; rfl
    rw [this, e]
    unfold nf
    rw [List.map_map]; rfl
  have nd : (J.map fun j => j.1.nm).Nodup := by
    have := (nf_ok h).nd
    rw [← e, List.map_map] at this
    exact this
  refine ⟨nd, fun n => ?_, fun t ht vs hv => ?_⟩
  · rw [en]
    exact ((srtBy_perm nmK o).map (·.nm)).mem_iff
  · have hn : t.nm ∈ J.map fun j => j.1.nm := by
      rw [en]
      exact ((srtBy_perm nmK o).map (·.nm)).mem_iff.mpr (List.mem_map_of_mem ht)
    obtain ⟨j, hj, ej⟩ := List.mem_map.mp hn
    have e2 := vOf_mem nd hj
    rw [ej, hv] at e2
    have hj1 : j.1 ∈ nf o := by rw [← e]; exact List.mem_map_of_mem hj
    obtain ⟨u, hu, eu⟩ := List.mem_map.mp hj1
    have : u = t := inj_nm h.nd (mem_srt.mp hu) ht (by rw [← ej, ← eu]; rfl)
    subst this
    have := hk j hj vs e2.symm
    rw [← eu] at this
    exact this
/-! ### back: keys one by one -/
def res (d : List Int) (t : Tb) : Tb := { t with rw := t.rw.filter fun r => decide (r.1 ∈ d) }
theorem res_nil (t : Tb) : res [] t = bare t := by
  unfold res bare
  congr 1
  rw [List.filter_eq_nil_iff]
  intro r _
  simp
theorem look_some {k : Int} {rw : Rows} {vs : List D} (h : look k rw = some vs) : (k, vs) ∈ rw := by
  unfold look at h
  cases q : rw.find? (fun r => decide (r.1 = k)) with
  | none => rw [q] at h; cases h
  | some r =>
    rw [q] at h
    cases h
    have hk : r.1 = k := by simpa using List.find?_some q
    have := List.mem_of_find?_eq_some q
    rw [← hk]; exact this
theorem look_none {k : Int} {rw : Rows} (h : look k rw = none) : ∀ r ∈ rw, r.1 ≠ k := by
  unfold look at h
  rw [Option.map_eq_none_iff, List.find?_eq_none] at h
  exact fun r hr e => h r hr (by simpa using e)
theorem res_step {t : Tb} (nd : (t.rw.map (·.1)).Nodup) (up : t.rw.Pairwise fun a b => a.1 < b.1) (d : List Int) (k : Int) : updT k (res d t, look k t.rw) = res (d ++ [k]) t := by
  show ({ res d t with rw := srtR (newRw k (look k t.rw) (res d t).rw) } : Tb) = _
  have ndf : ((res d t).rw.map (·.1)).Nodup := nd.sublist (List.Sublist.map _ (List.filter_sublist ..))
  have e : srtR (newRw k (look k t.rw) (res d t).rw) = (res (d ++ [k]) t).rw := by
    refine rw_uniq (rw_up (newRw_nd ndf)) (up.sublist (List.filter_sublist ..)) fun r => ?_
    rw [srtR_mem, newRw_iff]
    show (r ∈ t.rw.filter (fun r => decide (r.1 ∈ d)) ∧ r.1 ≠ k) ∨ _ ↔ r ∈ t.rw.filter fun r => decide (r.1 ∈ d ++ [k])
    rw [List.mem_filter, List.mem_filter, decide_eq_true_eq, decide_eq_true_eq]
    constructor
    · rintro (⟨⟨h1, h2⟩, _⟩ | ⟨vs, h1, rfl⟩)
      · exact ⟨h1, List.mem_append_left _ h2⟩
      · exact ⟨look_some h1, List.mem_append_right _ List.mem_cons_self⟩
    · rintro ⟨h1, h2⟩
      by_cases ek : r.1 = k
      · right
        cases e : look k t.rw with
        | none => exact absurd ek (look_none e r h1)
        | some vs =>
          refine ⟨vs, rfl, ?_⟩
          have hm := look_some e
          exact inj_of (fun r : Int × List D => r.1) nd h1 hm ek
      · left
        rcases List.mem_append.mp h2 with h2 | h2
        · exact ⟨⟨h1, h2⟩, ek⟩
        · simp at h2; exact absurd h2 ek
  rw [e]; rfl
theorem res_all {t : Tb} {d : List Int} (h : ∀ r ∈ t.rw, r.1 ∈ d) : res d t = t := by
  unfold res
  rw [List.filter_eq_self.mpr fun r hr => decide_eq_true (h r hr)]
theorem sc_res (d : List Int) (S : List Tb) : scD (S.map (res d)) = scD S := by
  unfold scD
  rw [List.map_map]; rfl
theorem res_ok {S : List Tb} (h : SOk S) (d : List Int) : SOk (S.map (res d)) := by
  refine ⟨?_, fun t ht => ?_, fun t ht => ?_⟩
  · rw [List.pairwise_map]; exact h.up
  · obtain ⟨u, hu, rfl⟩ := List.mem_map.mp ht
    have uo := h.ok u hu
    exact ⟨uo.nm, uo.cs, uo.nd.sublist (List.Sublist.map _ (List.filter_sublist ..)), fun r hr => uo.rw r (List.mem_filter.mp hr).1⟩
  · obtain ⟨u, hu, rfl⟩ := List.mem_map.mp ht
    exact (h.rise u hu).sublist (List.filter_sublist ..)
/-! ### the pot -/
def sd__law_pot : SpD := fun ds G Q => ∃ (ns : List Int) (place : Int), ds = [.lst (ns.map D.int), .int place] ∧ 0 ≤ place ∧ place ≤ 1 ∧ ∀ p a b c, G p = none → 0 ≤ a → 0 ≤ b → b < 2305843009213693952 → 0 ≤ c → c ≤ 0 → Q (.ref p) (updG G p (.lst [.int a, .int b, .int c]))
theorem r__law_pot : Rd b__law_pot n__law_pot sd__law_pot := by
  rintro ds G Q ⟨ns, place, rfl, h0, h1, q⟩
  have key : ∀ cell : Int, (dSeq (dAsg (dOp rMulD (dOp rModD (dCa rIntD (dCons (dCa rAbsD (dCons (dVar 2) dNil)) dNil)) (dOp rPowWD (dOp rPowD (dC (.int 10)) (dC (.int 60))) (dC (.int 5)))) (dCa rIntD (dCons (dOp rGeD (dCa rAbsD (dCons (dVar 2) dNil)) (dOp rPowD (dC (.int 10)) (dC (.int 18)))) dNil))) (gdName 3)) (dSeq (dAsg (dOp rModD (dCa rIntD (dCons (dVar 2) dNil)) (dC (.int 2305843009213693951))) (gdName 4)) (dRet (dNew (dLst (dCons (dVar 3) (dCons (dOp rModD (dCa rIntD (dCons (dOp rAddD (dOp rAddD (dOp rMulD (dVar 4) (dC (.int 73992))) (dOp rMulD (dOp rMulD (dC (.int 8502)) (dVar 1)) (dVar 1))) (dC (.int 748))) dNil)) (dC (.int 2305843009213693921))) (dCons (dC (.int 0)) dNil)))))))) { nx := fun _ G' => FgQ Q .non G', rt := FgQ Q } [some (.lst (ns.map D.int)), some (.int place), some (.int cell), none, none] G := by
    intro cell
    have p1 : CPow 10 60 := ⟨by omega, by omega, by omega⟩
    have p2 : CPow 10 18 := ⟨by omega, by omega, by omega⟩
    have p3 : CPowW (10 ^ 60) 5 := ⟨by omega, by decide +kernel⟩
    have m0 : (0 : Int) < (10 ^ 60) ^ 5 := by decide +kernel
    have s0 := Int.emod_nonneg cell (b := 2305843009213693951) (by decide)
    have s1 := Int.emod_lt_of_pos cell (b := 2305843009213693951) (by decide)
    simp [-Int.reducePow, p1, p2, p3, m0]
    have hif : (0 : Int) ≤ (if (10 ^ 18 : Int) ≤ (if cell < 0 then -cell else cell) then 1 else 0) ∧ (if (10 ^ 18 : Int) ≤ (if cell < 0 then -cell else cell) then (1 : Int) else 0) ≤ 1 := by split <;> exact ⟨by omega, by omega⟩
    have hm := Int.emod_nonneg (if cell < 0 then -cell else cell) (b := (10 ^ 60) ^ 5) (by omega)
    generalize (if (10 ^ 18 : Int) ≤ (if cell < 0 then -cell else cell) then (1 : Int) else 0) = w at hif ⊢
    generalize (if cell < 0 then -cell else cell) % (10 ^ 60) ^ 5 = z at hm ⊢
    have b0 := Int.emod_nonneg (cell % 2305843009213693951 * 73992 + 8502 * place * place + 748) (b := 2305843009213693921) (by decide)
    have b1 := Int.emod_lt_of_pos (cell % 2305843009213693951 * 73992 + 8502 * place * place + 748) (b := 2305843009213693921) (by decide)
    refine ⟨.inr ⟨by omega, by omega⟩, .inr ⟨by omega, by omega⟩, .inl ⟨by omega, by omega⟩, .inr ⟨by omega, by omega⟩, fun p hp => FgQ.of (q p _ _ _ hp (Int.mul_nonneg hm hif.1) b0 (by omega) (by omega) (by omega))⟩
  unfold b__law_pot
  show dAsg (dIf _ _ _) (gdName 2) _ _ G
  have hlen : ((ns.map D.int).length : Int) = ns.length := by rw [List.length_map]
  by_cases hp : place < ns.length
  · obtain ⟨v, hv, ev, _⟩ := at_mem h0 (xs := ns.map D.int) (by rw [List.length_map]; exact hp)
    obtain ⟨cell, _, rfl⟩ := List.mem_map.mp hv
    simp [-dSeq, hp, ev]
    exact key cell
  · have ecut : Dl.cutD (ns.map D.int) none (some 1) = (ns.take 1).map D.int := by
      rw [List.map_take]
      cases ns with
      | nil => rfl
      | cons x r =>
        have e : HT.sIx ((x :: r).map D.int).length ((x :: r).map D.int).length (some 1) = 1 := by
          have := HT.sIx_nat ((x :: r).map D.int).length ((x :: r).map D.int).length 1
          simpa using this
        unfold Dl.cutD
        rw [e]; rfl
    have hall : ((ns.take 1).map D.int).all isIntD = true := by rw [List.all_map, List.all_eq_true]; exact fun _ _ => rfl
    simp [-dSeq, -List.map_take, -List.all_map, -List.all_eq_true, hp, ecut, hall]
    exact ⟨.inl ⟨by omega, by omega⟩, key _⟩
end K5

end
section
set_option maxHeartbeats 1000000
namespace K5
open PySem PySem.Spec PyProof.Rows L2 Dl Gk
def sd__law_right : SpD := fun ds G Q => ∃ (p : Addr) (n : Int), ds = [.ref p] ∧ 0 ≤ n ∧ n ≤ 1000 ∧ Pt n G p ∧ ∀ G', Q (.bl true) G'
theorem st_vals {S : List Tb} (h : SOk S) : Tp 5 (stD S) := tp_st fun t ht r hr => ((h.ok t ht).rw r hr).2
theorem r__law_right : Rd (b__law_right sd__law_scene sd__law_state_schema sd__law_state_told sd__law_are_keys_right sd__law_of sd__law_rows_drawn sd_with_key_rows (sdS 6) sd__law_laid sd_empty_state sd__law_state_keys sd__law_some sd_key_rows) n__law_right sd__law_right := by
  rintro ds G Q ⟨p, n, rfl, hn0, hn, pt, q⟩
  simp [b__law_right]
  refine ⟨p, n, rfl, hn0, by omega, pt, ?_⟩
  rintro _ G1 ⟨o, rfl, h⟩ pt1 o1
  have hS := nf_ok h
  have hl := h.len
  refine ⟨o, rfl, h, o, rfl, h, ?_⟩
  simp
  refine ⟨⟨o, rfl, h⟩, ?_⟩
  simp
  refine forGo_inv (fun items σ G' => items.length ≤ 3 ∧ (∃ x y z w u v, σ = [some (.ref p), some (.lst (keys6.map D.int)), some (ownD o), some (scD (nf o)), some (stD (nf o)), x, y, z, w, u, v]) ∧ Pt (n + 1000 + 200 * (3 - items.length)) G' p) ?_ ?_ _ _ _ ⟨by simp [rangeD], ⟨_, _, _, _, _, _, rfl⟩, by simpa [rangeD] using pt1⟩
  · rintro σ G2 ⟨_, ⟨x, y, z, w, u, v, rfl⟩, pt2⟩
    simp
    refine ⟨nf o, rfl, hS, o, rfl, h, ?_⟩
    simp
    refine ⟨p, (keysL (nf o)).map D.int, (keysL (nf o)).length, n + 1600, rfl, by simp, ?_, by omega, ?_, pt2.mono (by simp; omega), ?_⟩
    · rw [List.length_map]
      have : (keysL (nf o)).length ≤ 6 := by
        have nd : (keysL (nf o)).Nodup := (srtBy_perm Sum.inl (allk (nf o))).nodup_iff.mpr (allk_nd _)
        exact nodup_le (m := keys6) nd fun k hk => by
          obtain ⟨t, ht, hk⟩ := (keysL_mem _ k).mp hk
          obtain ⟨r, hr, rfl⟩ := List.mem_map.mp hk
          exact ((hS.ok t ht).rw r hr).1
      omega
    · have : (keysL (nf o)).length ≤ 6 := by
        have nd : (keysL (nf o)).Nodup := (srtBy_perm Sum.inl (allk (nf o))).nodup_iff.mpr (allk_nd _)
        exact nodup_le (m := keys6) nd fun k hk => by
          obtain ⟨t, ht, hk⟩ := (keysL_mem _ k).mp hk
          obtain ⟨r, hr, rfl⟩ := List.mem_map.mp hk
          exact ((hS.ok t ht).rw r hr).1
      omega
    rintro _ G3 ⟨ys, rest, rfl, hp, hyl⟩ pt3 o3
    have hrest : rest = [] := by
      have := hp.length_eq
      rw [List.length_append, List.length_map] at this
      exact List.eq_nil_of_length_eq_zero (by omega)
    subst hrest
    rw [List.append_nil] at hp
    obtain ⟨ss, pl, rfl⟩ := perm_lift D.int hp (keysL (nf o)) rfl
    have hk6 : ∀ k ∈ ss, k ∈ keys6 := fun k hk => by
      obtain ⟨t, ht, hk⟩ := (keysL_mem _ k).mp (pl.mem_iff.mp hk)
      obtain ⟨r, hr, rfl⟩ := List.mem_map.mp hk
      exact ((hS.ok t ht).rw r hr).1
    have e0 : stD ((nf o).map bare) = stD ((nf o).map (res [])) := by
      congr 1
      exact List.map_congr_left fun t _ => (res_nil t).symm
    rw [e0]
    simp
    refine forGo_inv (fun items σ G' => ∃ d r : List Int, d ++ r = ss ∧ items = r.map D.int ∧ (∃ x y z w u v t, σ = [some (.ref p), x, y, some (scD (nf o)), some (stD (nf o)), z, some (stD ((nf o).map (res d))), w, u, v, t])) ?_ ?_ _ _ _ ?_
    · rintro σ G4 ⟨d, r, e1, e2, ⟨x, y, z, w, u, v, t', rfl⟩⟩
      have er : r = [] := List.map_eq_nil_iff.mp e2.symm
      subst er
      rw [List.append_nil] at e1
      subst e1
      have ea : (nf o).map (res d) = nf o := by
        refine (List.map_congr_left fun t ht => res_all fun r hr => ?_).trans (List.map_id _)
        exact pl.mem_iff.mpr ((keysL_mem _ _).mpr ⟨t, ht, List.mem_map_of_mem hr⟩)
      rw [ea]
      simp
      exact ⟨⟨_, rfl, st_vals hS⟩, FgQ.of (q _)⟩
    · rintro x r σ G4 N ⟨d, r', e1, e2, ⟨x', y, z, w, u, v, t', rfl⟩⟩ hN
      cases r' with
      | nil => cases e2
      | cons k r' =>
        rw [List.map_cons] at e2
        cases e2
        have hk : k ∈ keys6 := hk6 k (by rw [← e1]; exact List.mem_append_right _ List.mem_cons_self)
        simp
        refine ⟨nf o, k, rfl, hk, fun t ht => (hS.ok t ht).nd, ?_⟩
        obtain ⟨J, hJ⟩ : ∃ J : Jn, J = (nf o).map fun t => (res d t, look k t.rw) := ⟨_, rfl⟩
        have f1 : J.map (·.1) = (nf o).map (res d) := by rw [hJ, List.map_map]; rfl
        have f2 : krD J = krD (under k (nf o)) := by
          unfold krD under
          rw [hJ, List.map_map, List.map_map]; rfl
        have f3 : J.map (updT k) = (nf o).map (res (d ++ [k])) := by
          rw [hJ, List.map_map]
          exact List.map_congr_left fun t ht => res_step (hS.ok t ht).nd (hS.rise t ht) d k
        refine ⟨J, k, by rw [f1, f2, sc_res], by rw [f1]; exact res_ok hS d, ?_, hk, ?_⟩
        · intro j hj vs e
          rw [hJ] at hj
          obtain ⟨t, ht, rfl⟩ := List.mem_map.mp hj
          exact look_ok (hS.ok t ht) k vs e
        · rw [f3]
          exact hN _ _ ⟨d ++ [k], r', by rw [List.append_assoc]; exact e1, rfl, ⟨_, _, _, _, _, _, _, rfl⟩⟩
    · exact ⟨[], ss, rfl, rfl, ⟨_, _, _, _, _, _, _, rfl⟩⟩
  · rintro x' r σ G2 N ⟨hlen, ⟨x, y, z, w, u, v, rfl⟩, pt2⟩ hN
    rw [List.length_cons] at hlen pt2
    simp
    refine ⟨p, keys6.map D.int, n + 1000 + 200 * (3 - ((r.length + 1 : Nat) : Int)), rfl, by decide, by decide, by omega, pt2, ?_⟩
    rintro _ G3 hk0 pt3 o3
    obtain ⟨k, hk, rfl⟩ := List.mem_map.mp hk0
    refine ⟨p, o, n + 1000 + 200 * (3 - ((r.length + 1 : Nat) : Int)) + 1, rfl, h, by omega, by omega, pt3, ?_⟩
    rintro _ G4 ⟨J, rfl, eJ, hJ⟩ pt4 o4
    have hjo := jok_of h eJ hJ
    refine ⟨J, k, by rw [eJ], by rw [eJ]; exact hS, hJ, hk, ?_⟩
    refine ⟨o, k, J, rfl, h, hk, hjo, ?_⟩
    refine ⟨lay J k o, rfl, lay_ok h hk hjo.vals, ?_⟩
    simp
    refine ⟨⟨stD (J.map (updT k)), by rw [told_laid h eJ], ?_⟩, ?_⟩
    · rw [told_laid h eJ]
      exact st_vals (nf_ok (lay_ok h hk hjo.vals))
    · simp
      exact hN _ _ ⟨by omega, ⟨_, _, _, _, _, _, rfl⟩, pt4.mono (by push_cast; omega)⟩
def sd_law : SpD := fun ds G Q => ∃ ns : List Int, ds = [.lst (ns.map D.int)] ∧ ∀ G', Q (.bl true) G'
theorem r_law : Rd (b_law sd__law_cells sd__law_right sd__law_pot) n_law sd_law := by
  rintro ds G Q ⟨ns, rfl, q⟩
  simp [b_law]
  refine ⟨_, rfl, fun m hm => ?_⟩
  simp
  refine lcInv (fun items acc G' => (∀ x ∈ items, x ∈ rangeD 0 m) ∧ ∀ x ∈ acc, x = .bl true) ⟨fun x h => h, fun x h => by cases h⟩ ?_ ?_
  · rintro acc G' ⟨_, h⟩
    have h1 : ∀ x ∈ acc, isBl x = true := fun x hx => by rw [h x hx]; rfl
    have h2 : acc.all asBl = true := by
      rw [List.all_eq_true]
      exact fun x hx => by rw [h x hx]; rfl
    rw [h2]
    exact ⟨h1, FgQ.of (q _)⟩
  · rintro x r acc G' N M ⟨h1, h2⟩ hN hM
    have hx := h1 x List.mem_cons_self
    unfold rangeD at hx
    obtain ⟨i, hi, rfl⟩ := List.mem_map.mp hx
    have hi' : i < m := by simpa using hi
    simp
    refine ⟨ns, _, rfl, by omega, by omega, fun p a b c hp ha hb hb2 hc hc2 => ?_⟩
    refine ⟨p, 0, rfl, by omega, by omega, ⟨a, b, c, updG_same, ha, hb, hb2, hc, hc2⟩, fun G'' => ?_⟩
    refine hN _ _ ⟨fun y hy => h1 y (List.mem_cons_of_mem _ hy), fun y hy => ?_⟩
    rcases List.mem_append.mp hy with hy | hy
    · exact h2 y hy
    · simp at hy; exact hy
end K5

end
section
set_option maxHeartbeats 0
namespace Ko
open PySem PySem.Spec PyProof.Rows L2 Dl Gk K5
abbrev Fx (K : PySem.W.Frag) (mg : PySem.Str → Option Value) (x : PySem.Str) (st : Stmt) : Prop := ∃ (f : Addr) (fd : FuncData), mg x = some (.ref f) ∧ FunD K x x (defArgs st) (defBody st) (defScope st) [] [] f fd
structure Df (K : PySem.W.Frag) (mg : PySem.Str → Option Value) : Prop where
  f_is_whole : Fx K mg "is_whole" Hd.s_is_whole
  f_is_integer : Fx K mg "is_integer" Hd.s_is_integer
  f_is_tuple : Fx K mg "is_tuple" Hd.s_is_tuple
  f_is_string : Fx K mg "is_string" Hd.s_is_string
  f_are_ascending : Fx K mg "are_ascending" Hd.s_are_ascending
  f_are_unlike : Fx K mg "are_unlike" Hd.s_are_unlike
  f_is_name : Fx K mg "is_name" Hd.s_is_name
  f_is_key : Fx K mg "is_key" Hd.s_is_key
  f_is_text_value : Fx K mg "is_text_value" Hd.s_is_text_value
  f_is_of_kind : Fx K mg "is_of_kind" Hd.s_is_of_kind
  f_are_values : Fx K mg "are_values" Hd.s_are_values
  f_are_columns : Fx K mg "are_columns" Hd.s_are_columns
  f_is_schema : Fx K mg "is_schema" Hd.s_is_schema
  f_are_rows : Fx K mg "are_rows" Hd.s_are_rows
  f_is_state : Fx K mg "is_state" Hd.s_is_state
  f_are_key_rows : Fx K mg "are_key_rows" Hd.s_are_key_rows
  f_check_schema : Fx K mg "check_schema" Hd.s_check_schema
  f_check_state : Fx K mg "check_state" Hd.s_check_state
  f_empty_state : Fx K mg "empty_state" Hd.s_empty_state
  f_tables_in : Fx K mg "tables_in" Hd.s_tables_in
  f_state_of : Fx K mg "state_of" Hd.s_state_of
  f_check_key : Fx K mg "check_key" Hd.s_check_key
  f_keys_of : Fx K mg "keys_of" Hd.s_keys_of
  f_row_in : Fx K mg "row_in" Hd.s_row_in
  f_rows_under : Fx K mg "rows_under" Hd.s_rows_under
  f_key_rows : Fx K mg "key_rows" Hd.s_key_rows
  f_state_with : Fx K mg "state_with" Hd.s_state_with
  f_with_key_rows : Fx K mg "with_key_rows" Hd.s_with_key_rows
  f__law_pot : Fx K mg "_law_pot" Hd.s__law_pot
  f__law_take : Fx K mg "_law_take" Hd.s__law_take
  f__law_of : Fx K mg "_law_of" Hd.s__law_of
  f__law_some : Fx K mg "_law_some" Hd.s__law_some
  f__law_cells : Fx K mg "_law_cells" Hd.s__law_cells
  f__law_is_int : Fx K mg "_law_is_int" Hd.s__law_is_int
  f__law_state_is_text : Fx K mg "_law_state_is_text" Hd.s__law_state_is_text
  f__law_state_is_of : Fx K mg "_law_state_is_of" Hd.s__law_state_is_of
  f__law_state_are_values : Fx K mg "_law_state_are_values" Hd.s__law_state_are_values
  f__law_state_copy : Fx K mg "_law_state_copy" Hd.s__law_state_copy
  f__law_state_schema : Fx K mg "_law_state_schema" Hd.s__law_state_schema
  f__law_state_told : Fx K mg "_law_state_told" Hd.s__law_state_told
  f__law_state_keyed : Fx K mg "_law_state_keyed" Hd.s__law_state_keyed
  f__law_state_changed : Fx K mg "_law_state_changed" Hd.s__law_state_changed
  f__law_state_dealt : Fx K mg "_law_state_dealt" Hd.s__law_state_dealt
  f__law_state_keys : Fx K mg "_law_state_keys" Hd.s__law_state_keys
  f__law_state_value_drawn : Fx K mg "_law_state_value_drawn" Hd.s__law_state_value_drawn
  f__law_state_values_drawn : Fx K mg "_law_state_values_drawn" Hd.s__law_state_values_drawn
  f__law_state_columns_drawn : Fx K mg "_law_state_columns_drawn" Hd.s__law_state_columns_drawn
  f__law_state_changes_drawn : Fx K mg "_law_state_changes_drawn" Hd.s__law_state_changes_drawn
  f__law_same : Fx K mg "_law_same" Hd.s__law_same
  f__law_rows_drawn : Fx K mg "_law_rows_drawn" Hd.s__law_rows_drawn
  f__law_laid : Fx K mg "_law_laid" Hd.s__law_laid
  f__law_are_keys_right : Fx K mg "_law_are_keys_right" Hd.s__law_are_keys_right
  f__law_scene : Fx K mg "_law_scene" Hd.s__law_scene
  f__law_right : Fx K mg "_law_right" Hd.s__law_right
  f_law : Fx K mg "law" Hd.s_law
theorem ok_is_whole {P : Program} {w : World} {K : PySem.W.Frag} {mg : PySem.Str → Option Value} {base : Heap} (ev : Ev K mg) (df : Df K mg) : Has P w K mg base 1 "is_whole" Hd.s_is_whole [("value" : PySem.Str)] sd_is_whole := by
  obtain ⟨f, fd, hm, F⟩ := df.f_is_whole
  exact has_fg (k := 0) F hm (fun _ _ _ _ _ _ us hl => match us, hl with | [_], _ => rfl) sc_is_whole (by rintro ds G Q ⟨⟨_, rfl⟩, _⟩; rfl) (fun cdv A outer s H E hr => w_is_whole ev  cdv A outer s H E hr) r_is_whole
theorem ok_is_integer {P : Program} {w : World} {K : PySem.W.Frag} {mg : PySem.Str → Option Value} {base : Heap} (ev : Ev K mg) (df : Df K mg) : Has P w K mg base 2 "is_integer" Hd.s_is_integer [("value" : PySem.Str), ("low" : PySem.Str), ("high" : PySem.Str)] sd_is_integer := by
  obtain ⟨f, fd, hm, F⟩ := df.f_is_integer
  exact has_fg (k := 1) F hm (fun _ _ _ _ _ _ us hl => match us, hl with | [_, _, _], _ => rfl) sc_is_integer (by rintro ds G Q ⟨⟨_, _, _, rfl, _⟩, _⟩; rfl) (fun cdv A outer s H E hr => w_is_integer ev ((ok_is_whole ev df).mono (by decide)) cdv A outer s H E hr) r_is_integer
theorem ok_is_tuple {P : Program} {w : World} {K : PySem.W.Frag} {mg : PySem.Str → Option Value} {base : Heap} (ev : Ev K mg) (df : Df K mg) : Has P w K mg base 1 "is_tuple" Hd.s_is_tuple [("value" : PySem.Str), ("low" : PySem.Str), ("high" : PySem.Str)] sd_is_tuple := by
  obtain ⟨f, fd, hm, F⟩ := df.f_is_tuple
  exact has_fg (k := 0) F hm (fun _ _ _ _ _ _ us hl => match us, hl with | [_, _, _], _ => rfl) sc_is_tuple (by rintro ds G Q ⟨⟨_, _, _, rfl, _⟩, _⟩; rfl) (fun cdv A outer s H E hr => w_is_tuple ev  cdv A outer s H E hr) r_is_tuple
theorem ok_is_string {P : Program} {w : World} {K : PySem.W.Frag} {mg : PySem.Str → Option Value} {base : Heap} (ev : Ev K mg) (df : Df K mg) : Has P w K mg base 1 "is_string" Hd.s_is_string [("value" : PySem.Str), ("some" : PySem.Str)] sd_is_string := by
  obtain ⟨f, fd, hm, F⟩ := df.f_is_string
  exact has_fg (k := 0) F hm (fun _ _ _ _ _ _ us hl => match us, hl with | [_, _], _ => rfl) sc_is_string (by rintro ds G Q ⟨⟨_, _, rfl, _⟩, _⟩; rfl) (fun cdv A outer s H E hr => w_is_string ev  cdv A outer s H E hr) r_is_string
theorem ok_are_ascending {P : Program} {w : World} {K : PySem.W.Frag} {mg : PySem.Str → Option Value} {base : Heap} (ev : Ev K mg) (df : Df K mg) : Has P w K mg base 1 "are_ascending" Hd.s_are_ascending [("some" : PySem.Str)] sd_are_ascending := by
  obtain ⟨f, fd, hm, F⟩ := df.f_are_ascending
  exact has_fg (k := 0) F hm (fun _ _ _ _ _ _ us hl => match us, hl with | [_], _ => rfl) sc_are_ascending (by rintro ds G Q ⟨⟨_, rfl, _⟩, _⟩; rfl) (fun cdv A outer s H E hr => w_are_ascending ev  cdv A outer s H E hr) r_are_ascending
theorem ok_are_unlike {P : Program} {w : World} {K : PySem.W.Frag} {mg : PySem.Str → Option Value} {base : Heap} (ev : Ev K mg) (df : Df K mg) : Has P w K mg base 1 "are_unlike" Hd.s_are_unlike [("some" : PySem.Str)] sd_are_unlike := by
  obtain ⟨f, fd, hm, F⟩ := df.f_are_unlike
  exact has_fg (k := 0) F hm (fun _ _ _ _ _ _ us hl => match us, hl with | [_], _ => rfl) sc_are_unlike (by rintro ds G Q ⟨⟨_, rfl, _⟩, _⟩; rfl) (fun cdv A outer s H E hr => w_are_unlike ev  cdv A outer s H E hr) r_are_unlike
theorem ok_is_name {P : Program} {w : World} {K : PySem.W.Frag} {mg : PySem.Str → Option Value} {base : Heap} (ev : Ev K mg) (df : Df K mg) : Has P w K mg base 1 "is_name" Hd.s_is_name [("value" : PySem.Str)] sd_is_name := by
  obtain ⟨f, fd, hm, F⟩ := df.f_is_name
  exact has_fg (k := 0) F hm (fun _ _ _ _ _ _ us hl => match us, hl with | [_], _ => rfl) sc_is_name (by rintro ds G Q ⟨⟨_, rfl, _⟩, _⟩; rfl) (fun cdv A outer s H E hr => w_is_name ev  cdv A outer s H E hr) r_is_name
theorem ok_is_key {P : Program} {w : World} {K : PySem.W.Frag} {mg : PySem.Str → Option Value} {base : Heap} (ev : Ev K mg) (df : Df K mg) : Has P w K mg base 3 "is_key" Hd.s_is_key [("value" : PySem.Str)] sd_is_key := by
  obtain ⟨f, fd, hm, F⟩ := df.f_is_key
  exact has_fg (k := 2) F hm (fun _ _ _ _ _ _ us hl => match us, hl with | [_], _ => rfl) sc_is_key (by rintro ds G Q ⟨⟨_, rfl, _⟩, _⟩; rfl) (fun cdv A outer s H E hr => w_is_key ev ((ok_is_integer ev df).mono (by decide)) cdv A outer s H E hr) r_is_key
theorem ok_is_text_value {P : Program} {w : World} {K : PySem.W.Frag} {mg : PySem.Str → Option Value} {base : Heap} (ev : Ev K mg) (df : Df K mg) : Has P w K mg base 1 "is_text_value" Hd.s_is_text_value [("value" : PySem.Str)] sd_is_text_value := by
  obtain ⟨f, fd, hm, F⟩ := df.f_is_text_value
  exact has_fg (k := 0) F hm (fun _ _ _ _ _ _ us hl => match us, hl with | [_], _ => rfl) sc_is_text_value (by rintro ds G Q ⟨⟨_, rfl, _⟩, _⟩; rfl) (fun cdv A outer s H E hr => w_is_text_value ev  cdv A outer s H E hr) r_is_text_value
theorem ok_is_of_kind {P : Program} {w : World} {K : PySem.W.Frag} {mg : PySem.Str → Option Value} {base : Heap} (ev : Ev K mg) (df : Df K mg) : Has P w K mg base 3 "is_of_kind" Hd.s_is_of_kind [("value" : PySem.Str), ("kind" : PySem.Str)] sd_is_of_kind := by
  obtain ⟨f, fd, hm, F⟩ := df.f_is_of_kind
  exact has_fg (k := 2) F hm (fun _ _ _ _ _ _ us hl => match us, hl with | [_, _], _ => rfl) sc_is_of_kind (by rintro ds G Q ⟨⟨_, _, rfl, _⟩, _⟩; rfl) (fun cdv A outer s H E hr => w_is_of_kind ev ((ok_is_integer ev df).mono (by decide)) ((ok_is_text_value ev df).mono (by decide)) cdv A outer s H E hr) r_is_of_kind
theorem ok_are_values {P : Program} {w : World} {K : PySem.W.Frag} {mg : PySem.Str → Option Value} {base : Heap} (ev : Ev K mg) (df : Df K mg) : Has P w K mg base 4 "are_values" Hd.s_are_values [("value" : PySem.Str), ("columns" : PySem.Str)] sd_are_values := by
  obtain ⟨f, fd, hm, F⟩ := df.f_are_values
  exact has_fg (k := 3) F hm (fun _ _ _ _ _ _ us hl => match us, hl with | [_, _], _ => rfl) sc_are_values (by rintro ds G Q ⟨⟨_, _, rfl, _⟩, _⟩; rfl) (fun cdv A outer s H E hr => w_are_values ev ((ok_is_tuple ev df).mono (by decide)) ((ok_is_of_kind ev df).mono (by decide)) cdv A outer s H E hr) r_are_values
theorem ok_are_columns {P : Program} {w : World} {K : PySem.W.Frag} {mg : PySem.Str → Option Value} {base : Heap} (ev : Ev K mg) (df : Df K mg) : Has P w K mg base 2 "are_columns" Hd.s_are_columns [("value" : PySem.Str)] sd_are_columns := by
  obtain ⟨f, fd, hm, F⟩ := df.f_are_columns
  exact has_fg (k := 1) F hm (fun _ _ _ _ _ _ us hl => match us, hl with | [_], _ => rfl) sc_are_columns (by rintro ds G Q ⟨⟨_, rfl, _⟩, _⟩; rfl) (fun cdv A outer s H E hr => w_are_columns ev ((ok_is_tuple ev df).mono (by decide)) ((ok_is_name ev df).mono (by decide)) ((ok_is_string ev df).mono (by decide)) ((ok_are_unlike ev df).mono (by decide)) cdv A outer s H E hr) r_are_columns
theorem ok_is_schema {P : Program} {w : World} {K : PySem.W.Frag} {mg : PySem.Str → Option Value} {base : Heap} (ev : Ev K mg) (df : Df K mg) : Has P w K mg base 3 "is_schema" Hd.s_is_schema [("value" : PySem.Str)] sd_is_schema := by
  obtain ⟨f, fd, hm, F⟩ := df.f_is_schema
  exact has_fg (k := 2) F hm (fun _ _ _ _ _ _ us hl => match us, hl with | [_], _ => rfl) sc_is_schema (by rintro ds G Q ⟨⟨_, rfl, _⟩, _⟩; rfl) (fun cdv A outer s H E hr => w_is_schema ev ((ok_is_tuple ev df).mono (by decide)) ((ok_is_name ev df).mono (by decide)) ((ok_are_columns ev df).mono (by decide)) ((ok_are_ascending ev df).mono (by decide)) cdv A outer s H E hr) r_is_schema
theorem ok_are_rows {P : Program} {w : World} {K : PySem.W.Frag} {mg : PySem.Str → Option Value} {base : Heap} (ev : Ev K mg) (df : Df K mg) : Has P w K mg base 5 "are_rows" Hd.s_are_rows [("value" : PySem.Str), ("columns" : PySem.Str)] sd_are_rows := by
  obtain ⟨f, fd, hm, F⟩ := df.f_are_rows
  exact has_fg (k := 4) F hm (fun _ _ _ _ _ _ us hl => match us, hl with | [_, _], _ => rfl) sc_are_rows (by rintro ds G Q ⟨⟨_, _, rfl, _⟩, _⟩; rfl) (fun cdv A outer s H E hr => w_are_rows ev ((ok_is_tuple ev df).mono (by decide)) ((ok_is_key ev df).mono (by decide)) ((ok_are_values ev df).mono (by decide)) ((ok_are_ascending ev df).mono (by decide)) cdv A outer s H E hr) r_are_rows
theorem ok_is_state {P : Program} {w : World} {K : PySem.W.Frag} {mg : PySem.Str → Option Value} {base : Heap} (ev : Ev K mg) (df : Df K mg) : Has P w K mg base 6 "is_state" Hd.s_is_state [("schema" : PySem.Str), ("value" : PySem.Str)] sd_is_state := by
  obtain ⟨f, fd, hm, F⟩ := df.f_is_state
  exact has_fg (k := 5) F hm (fun _ _ _ _ _ _ us hl => match us, hl with | [_, _], _ => rfl) sc_is_state (by rintro ds G Q ⟨⟨_, rfl, _⟩, _⟩; rfl) (fun cdv A outer s H E hr => w_is_state ev ((ok_is_tuple ev df).mono (by decide)) ((ok_is_string ev df).mono (by decide)) ((ok_are_rows ev df).mono (by decide)) cdv A outer s H E hr) r_is_state
theorem ok_are_key_rows {P : Program} {w : World} {K : PySem.W.Frag} {mg : PySem.Str → Option Value} {base : Heap} (ev : Ev K mg) (df : Df K mg) : Has P w K mg base 5 "are_key_rows" Hd.s_are_key_rows [("schema" : PySem.Str), ("value" : PySem.Str)] sd_are_key_rows := by
  obtain ⟨f, fd, hm, F⟩ := df.f_are_key_rows
  exact has_fg (k := 4) F hm (fun _ _ _ _ _ _ us hl => match us, hl with | [_, _], _ => rfl) sc_are_key_rows (by rintro ds G Q ⟨⟨_, rfl, _⟩, _⟩; rfl) (fun cdv A outer s H E hr => w_are_key_rows ev ((ok_is_tuple ev df).mono (by decide)) ((ok_is_string ev df).mono (by decide)) ((ok_are_values ev df).mono (by decide)) cdv A outer s H E hr) r_are_key_rows
theorem ok_check_schema {P : Program} {w : World} {K : PySem.W.Frag} {mg : PySem.Str → Option Value} {base : Heap} (ev : Ev K mg) (df : Df K mg) : Has P w K mg base 4 "check_schema" Hd.s_check_schema [("schema" : PySem.Str)] sd_check_schema := by
  obtain ⟨f, fd, hm, F⟩ := df.f_check_schema
  exact has_fg (k := 3) F hm (fun _ _ _ _ _ _ us hl => match us, hl with | [_], _ => rfl) sc_check_schema (by rintro ds G Q ⟨⟨_, rfl, _⟩, _⟩; rfl) (fun cdv A outer s H E hr => w_check_schema ev ((ok_is_schema ev df).mono (by decide)) cdv A outer s H E hr) r_check_schema
theorem ok_check_state {P : Program} {w : World} {K : PySem.W.Frag} {mg : PySem.Str → Option Value} {base : Heap} (ev : Ev K mg) (df : Df K mg) : Has P w K mg base 7 "check_state" Hd.s_check_state [("schema" : PySem.Str), ("state" : PySem.Str)] sd_check_state := by
  obtain ⟨f, fd, hm, F⟩ := df.f_check_state
  exact has_fg (k := 6) F hm (fun _ _ _ _ _ _ us hl => match us, hl with | [_, _], _ => rfl) sc_check_state (by rintro ds G Q ⟨⟨_, rfl, _⟩, _⟩; rfl) (fun cdv A outer s H E hr => w_check_state ev ((ok_is_state ev df).mono (by decide)) cdv A outer s H E hr) r_check_state
theorem ok_empty_state {P : Program} {w : World} {K : PySem.W.Frag} {mg : PySem.Str → Option Value} {base : Heap} (ev : Ev K mg) (df : Df K mg) : Has P w K mg base 5 "empty_state" Hd.s_empty_state [("schema" : PySem.Str)] sd_empty_state := by
  obtain ⟨f, fd, hm, F⟩ := df.f_empty_state
  exact has_fg (k := 4) F hm (fun _ _ _ _ _ _ us hl => match us, hl with | [_], _ => rfl) sc_empty_state (by rintro ds G Q ⟨_, rfl, _⟩; rfl) (fun cdv A outer s H E hr => w_empty_state ev ((ok_check_schema ev df).mono (by decide)) cdv A outer s H E hr) r_empty_state
theorem ok_tables_in {P : Program} {w : World} {K : PySem.W.Frag} {mg : PySem.Str → Option Value} {base : Heap} (ev : Ev K mg) (df : Df K mg) : Has P w K mg base 1 "tables_in" Hd.s_tables_in [("state" : PySem.Str)] sd_tables_in := by
  obtain ⟨f, fd, hm, F⟩ := df.f_tables_in
  exact has_fg (k := 0) F hm (fun _ _ _ _ _ _ us hl => match us, hl with | [_], _ => rfl) sc_tables_in (by rintro ds G Q ⟨_, rfl, _⟩; rfl) (fun cdv A outer s H E hr => w_tables_in ev  cdv A outer s H E hr) r_tables_in
theorem ok_state_of {P : Program} {w : World} {K : PySem.W.Frag} {mg : PySem.Str → Option Value} {base : Heap} (ev : Ev K mg) (df : Df K mg) : Has P w K mg base 1 "state_of" Hd.s_state_of [("tables" : PySem.Str)] sd_state_of := by
  obtain ⟨f, fd, hm, F⟩ := df.f_state_of
  exact has_fg (k := 0) F hm (fun _ _ _ _ _ _ us hl => match us, hl with | [_], _ => rfl) sc_state_of (by rintro ds G Q ⟨_, rfl, _⟩; rfl) (fun cdv A outer s H E hr => w_state_of ev  cdv A outer s H E hr) r_state_of
theorem ok_check_key {P : Program} {w : World} {K : PySem.W.Frag} {mg : PySem.Str → Option Value} {base : Heap} (ev : Ev K mg) (df : Df K mg) : Has P w K mg base 4 "check_key" Hd.s_check_key [("key" : PySem.Str)] sd_check_key := by
  obtain ⟨f, fd, hm, F⟩ := df.f_check_key
  exact has_fg (k := 3) F hm (fun _ _ _ _ _ _ us hl => match us, hl with | [_], _ => rfl) sc_check_key (by rintro ds G Q ⟨⟨_, rfl, _⟩, _⟩; rfl) (fun cdv A outer s H E hr => w_check_key ev ((ok_is_key ev df).mono (by decide)) cdv A outer s H E hr) r_check_key
theorem ok_keys_of {P : Program} {w : World} {K : PySem.W.Frag} {mg : PySem.Str → Option Value} {base : Heap} (ev : Ev K mg) (df : Df K mg) : Has P w K mg base 1 "keys_of" Hd.s_keys_of [("state" : PySem.Str)] sd_keys_of := by
  obtain ⟨f, fd, hm, F⟩ := df.f_keys_of
  exact has_fg (k := 0) F hm (fun _ _ _ _ _ _ us hl => match us, hl with | [_], _ => rfl) sc_keys_of (by rintro ds G Q ⟨_, rfl, _⟩; rfl) (fun cdv A outer s H E hr => w_keys_of ev  cdv A outer s H E hr) r_keys_of
theorem ok_row_in {P : Program} {w : World} {K : PySem.W.Frag} {mg : PySem.Str → Option Value} {base : Heap} (ev : Ev K mg) (df : Df K mg) : Has P w K mg base 5 "row_in" Hd.s_row_in [("state" : PySem.Str), ("table" : PySem.Str), ("key" : PySem.Str)] sd_row_in := by
  obtain ⟨f, fd, hm, F⟩ := df.f_row_in
  exact has_fg (k := 4) F hm (fun _ _ _ _ _ _ us hl => match us, hl with | [_, _, _], _ => rfl) sc_row_in (by rintro ds G Q ⟨_, _, _, rfl, _⟩; rfl) (fun cdv A outer s H E hr => w_row_in ev ((ok_check_key ev df).mono (by decide)) cdv A outer s H E hr) r_row_in
theorem ok_rows_under {P : Program} {w : World} {K : PySem.W.Frag} {mg : PySem.Str → Option Value} {base : Heap} (ev : Ev K mg) (df : Df K mg) : Has P w K mg base 1 "rows_under" Hd.s_rows_under [("state" : PySem.Str), ("key" : PySem.Str)] sd_rows_under := by
  obtain ⟨f, fd, hm, F⟩ := df.f_rows_under
  exact has_fg (k := 0) F hm (fun _ _ _ _ _ _ us hl => match us, hl with | [_, _], _ => rfl) sc_rows_under (by rintro ds G Q ⟨_, _, rfl, _⟩; rfl) (fun cdv A outer s H E hr => w_rows_under ev  cdv A outer s H E hr) r_rows_under
theorem ok_key_rows {P : Program} {w : World} {K : PySem.W.Frag} {mg : PySem.Str → Option Value} {base : Heap} (ev : Ev K mg) (df : Df K mg) : Has P w K mg base 5 "key_rows" Hd.s_key_rows [("state" : PySem.Str), ("key" : PySem.Str)] sd_key_rows := by
  obtain ⟨f, fd, hm, F⟩ := df.f_key_rows
  exact has_fg (k := 4) F hm (fun _ _ _ _ _ _ us hl => match us, hl with | [_, _], _ => rfl) sc_key_rows (by rintro ds G Q ⟨_, _, rfl, _⟩; rfl) (fun cdv A outer s H E hr => w_key_rows ev ((ok_check_key ev df).mono (by decide)) ((ok_rows_under ev df).mono (by decide)) cdv A outer s H E hr) r_key_rows
theorem ok_state_with {P : Program} {w : World} {K : PySem.W.Frag} {mg : PySem.Str → Option Value} {base : Heap} (ev : Ev K mg) (df : Df K mg) : Has P w K mg base 2 "state_with" Hd.s_state_with [("state" : PySem.Str), ("key" : PySem.Str), ("rows" : PySem.Str)] sd_state_with := by
  obtain ⟨f, fd, hm, F⟩ := df.f_state_with
  exact has_fg (k := 1) F hm (fun _ _ _ _ _ _ us hl => match us, hl with | [_, _, _], _ => rfl) sc_state_with (by rintro ds G Q ⟨_, _, rfl, _⟩; rfl) (fun cdv A outer s H E hr => w_state_with ev ((ok_tables_in ev df).mono (by decide)) ((ok_state_of ev df).mono (by decide)) cdv A outer s H E hr) r_state_with
theorem ok_with_key_rows {P : Program} {w : World} {K : PySem.W.Frag} {mg : PySem.Str → Option Value} {base : Heap} (ev : Ev K mg) (df : Df K mg) : Has P w K mg base 8 "with_key_rows" Hd.s_with_key_rows [("schema" : PySem.Str), ("state" : PySem.Str), ("key" : PySem.Str), ("rows" : PySem.Str)] sd_with_key_rows := by
  obtain ⟨f, fd, hm, F⟩ := df.f_with_key_rows
  exact has_fg (k := 7) F hm (fun _ _ _ _ _ _ us hl => match us, hl with | [_, _, _, _], _ => rfl) sc_with_key_rows (by rintro ds G Q ⟨_, _, rfl, _⟩; rfl) (fun cdv A outer s H E hr => w_with_key_rows ev ((ok_check_schema ev df).mono (by decide)) ((ok_check_state ev df).mono (by decide)) ((ok_check_key ev df).mono (by decide)) ((ok_are_key_rows ev df).mono (by decide)) ((ok_state_with ev df).mono (by decide)) cdv A outer s H E hr) r_with_key_rows
theorem ok__law_pot {P : Program} {w : World} {K : PySem.W.Frag} {mg : PySem.Str → Option Value} {base : Heap} (ev : Ev K mg) (df : Df K mg) : Has P w K mg base 1 "_law_pot" Hd.s__law_pot [("script" : PySem.Str), ("place" : PySem.Str)] sd__law_pot := by
  obtain ⟨f, fd, hm, F⟩ := df.f__law_pot
  exact has_fg (k := 0) F hm (fun _ _ _ _ _ _ us hl => match us, hl with | [_, _], _ => rfl) sc__law_pot (by rintro ds G Q ⟨_, _, rfl, _⟩; rfl) (fun cdv A outer s H E hr => w__law_pot ev  cdv A outer s H E hr) r__law_pot
theorem ok__law_take {P : Program} {w : World} {K : PySem.W.Frag} {mg : PySem.Str → Option Value} {base : Heap} (ev : Ev K mg) (df : Df K mg) : Has P w K mg base 1 "_law_take" Hd.s__law_take [("pot" : PySem.Str), ("upto" : PySem.Str)] sd__law_take := by
  obtain ⟨f, fd, hm, F⟩ := df.f__law_take
  exact has_fg (k := 0) F hm (fun _ _ _ _ _ _ us hl => match us, hl with | [_, _], _ => rfl) sc__law_take (by rintro ds G Q ⟨_, _, _, rfl, _⟩; rfl) (fun cdv A outer s H E hr => w__law_take ev  cdv A outer s H E hr) r__law_take
theorem ok__law_of {P : Program} {w : World} {K : PySem.W.Frag} {mg : PySem.Str → Option Value} {base : Heap} (ev : Ev K mg) (df : Df K mg) : Has P w K mg base 2 "_law_of" Hd.s__law_of [("pot" : PySem.Str), ("some" : PySem.Str)] sd__law_of := by
  obtain ⟨f, fd, hm, F⟩ := df.f__law_of
  exact has_fg (k := 1) F hm (fun _ _ _ _ _ _ us hl => match us, hl with | [_, _], _ => rfl) sc__law_of (by rintro ds G Q ⟨_, _, _, rfl, _⟩; rfl) (fun cdv A outer s H E hr => w__law_of ev ((ok__law_take ev df).mono (by decide)) cdv A outer s H E hr) r__law_of
theorem ok__law_some {P : Program} {w : World} {K : PySem.W.Frag} {mg : PySem.Str → Option Value} {base : Heap} (ev : Ev K mg) (df : Df K mg) : Has P w K mg base 2 "_law_some" Hd.s__law_some [("pot" : PySem.Str), ("pool" : PySem.Str), ("many" : PySem.Str)] sd__law_some := by
  obtain ⟨f, fd, hm, F⟩ := df.f__law_some
  exact has_fg (k := 1) F hm (fun _ _ _ _ _ _ us hl => match us, hl with | [_, _, _], _ => rfl) sc__law_some (by rintro ds G Q ⟨_, _, _, _, rfl, _⟩; rfl) (fun cdv A outer s H E hr => w__law_some ev ((ok__law_take ev df).mono (by decide)) cdv A outer s H E hr) r__law_some
theorem ok__law_cells {P : Program} {w : World} {K : PySem.W.Frag} {mg : PySem.Str → Option Value} {base : Heap} (ev : Ev K mg) (df : Df K mg) : Has P w K mg base 1 "_law_cells" Hd.s__law_cells [("script" : PySem.Str), ("most" : PySem.Str)] sd__law_cells := by
  obtain ⟨f, fd, hm, F⟩ := df.f__law_cells
  exact has_fg (k := 0) F hm (fun _ _ _ _ _ _ us hl => match us, hl with | [_, _], _ => rfl) sc__law_cells (by rintro ds G Q ⟨_, rfl, _⟩; rfl) (fun cdv A outer s H E hr => w__law_cells ev  cdv A outer s H E hr) r__law_cells
theorem ok__law_is_int {P : Program} {w : World} {K : PySem.W.Frag} {mg : PySem.Str → Option Value} {base : Heap} (ev : Ev K mg) (df : Df K mg) : Has P w K mg base 1 "_law_is_int" Hd.s__law_is_int [("value" : PySem.Str), ("low" : PySem.Str), ("high" : PySem.Str)] sd__law_is_int := by
  obtain ⟨f, fd, hm, F⟩ := df.f__law_is_int
  exact has_fg (k := 0) F hm (fun _ _ _ _ _ _ us hl => match us, hl with | [_, _, _], _ => rfl) sc__law_is_int (by rintro ds G Q ⟨⟨_, _, _, rfl, _⟩, _⟩; rfl) (fun cdv A outer s H E hr => w__law_is_int ev  cdv A outer s H E hr) r__law_is_int
theorem ok__law_state_is_text {P : Program} {w : World} {K : PySem.W.Frag} {mg : PySem.Str → Option Value} {base : Heap} (ev : Ev K mg) (df : Df K mg) : Has P w K mg base 1 "_law_state_is_text" Hd.s__law_state_is_text [("value" : PySem.Str)] sd__law_state_is_text := by
  obtain ⟨f, fd, hm, F⟩ := df.f__law_state_is_text
  exact has_fg (k := 0) F hm (fun _ _ _ _ _ _ us hl => match us, hl with | [_], _ => rfl) sc__law_state_is_text (by rintro ds G Q ⟨⟨_, rfl, _⟩, _⟩; rfl) (fun cdv A outer s H E hr => w__law_state_is_text ev  cdv A outer s H E hr) r__law_state_is_text
theorem ok__law_state_is_of {P : Program} {w : World} {K : PySem.W.Frag} {mg : PySem.Str → Option Value} {base : Heap} (ev : Ev K mg) (df : Df K mg) : Has P w K mg base 2 "_law_state_is_of" Hd.s__law_state_is_of [("value" : PySem.Str), ("kind" : PySem.Str)] sd__law_state_is_of := by
  obtain ⟨f, fd, hm, F⟩ := df.f__law_state_is_of
  exact has_fg (k := 1) F hm (fun _ _ _ _ _ _ us hl => match us, hl with | [_, _], _ => rfl) sc__law_state_is_of (by rintro ds G Q ⟨⟨_, _, rfl, _⟩, _⟩; rfl) (fun cdv A outer s H E hr => w__law_state_is_of ev ((ok__law_is_int ev df).mono (by decide)) ((ok__law_state_is_text ev df).mono (by decide)) cdv A outer s H E hr) r__law_state_is_of
theorem ok__law_state_are_values {P : Program} {w : World} {K : PySem.W.Frag} {mg : PySem.Str → Option Value} {base : Heap} (ev : Ev K mg) (df : Df K mg) : Has P w K mg base 3 "_law_state_are_values" Hd.s__law_state_are_values [("columns" : PySem.Str), ("value" : PySem.Str)] sd__law_state_are_values := by
  obtain ⟨f, fd, hm, F⟩ := df.f__law_state_are_values
  exact has_fg (k := 2) F hm (fun _ _ _ _ _ _ us hl => match us, hl with | [_, _], _ => rfl) sc__law_state_are_values (by rintro ds G Q ⟨⟨_, _, rfl, _⟩, _⟩; rfl) (fun cdv A outer s H E hr => w__law_state_are_values ev ((ok__law_state_is_of ev df).mono (by decide)) cdv A outer s H E hr) r__law_state_are_values
theorem ok__law_state_copy {P : Program} {w : World} {K : PySem.W.Frag} {mg : PySem.Str → Option Value} {base : Heap} (ev : Ev K mg) (df : Df K mg) : Has P w K mg base 1 "_law_state_copy" Hd.s__law_state_copy [("own" : PySem.Str)] sd__law_state_copy := by
  obtain ⟨f, fd, hm, F⟩ := df.f__law_state_copy
  exact has_fg (k := 0) F hm (fun _ _ _ _ _ _ us hl => match us, hl with | [_], _ => rfl) sc__law_state_copy (by rintro ds G Q ⟨_, rfl, _⟩; rfl) (fun cdv A outer s H E hr => w__law_state_copy ev  cdv A outer s H E hr) r__law_state_copy
theorem ok__law_state_schema {P : Program} {w : World} {K : PySem.W.Frag} {mg : PySem.Str → Option Value} {base : Heap} (ev : Ev K mg) (df : Df K mg) : Has P w K mg base 1 "_law_state_schema" Hd.s__law_state_schema [("own" : PySem.Str)] sd__law_state_schema := by
  obtain ⟨f, fd, hm, F⟩ := df.f__law_state_schema
  exact has_fg (k := 0) F hm (fun _ _ _ _ _ _ us hl => match us, hl with | [_], _ => rfl) sc__law_state_schema (by rintro ds G Q ⟨_, rfl, _⟩; rfl) (fun cdv A outer s H E hr => w__law_state_schema ev  cdv A outer s H E hr) r__law_state_schema
theorem ok__law_state_told {P : Program} {w : World} {K : PySem.W.Frag} {mg : PySem.Str → Option Value} {base : Heap} (ev : Ev K mg) (df : Df K mg) : Has P w K mg base 1 "_law_state_told" Hd.s__law_state_told [("own" : PySem.Str)] sd__law_state_told := by
  obtain ⟨f, fd, hm, F⟩ := df.f__law_state_told
  exact has_fg (k := 0) F hm (fun _ _ _ _ _ _ us hl => match us, hl with | [_], _ => rfl) sc__law_state_told (by rintro ds G Q ⟨_, rfl, _⟩; rfl) (fun cdv A outer s H E hr => w__law_state_told ev  cdv A outer s H E hr) r__law_state_told
theorem ok__law_state_keyed {P : Program} {w : World} {K : PySem.W.Frag} {mg : PySem.Str → Option Value} {base : Heap} (ev : Ev K mg) (df : Df K mg) : Has P w K mg base 1 "_law_state_keyed" Hd.s__law_state_keyed [("own" : PySem.Str), ("key" : PySem.Str)] sd__law_state_keyed := by
  obtain ⟨f, fd, hm, F⟩ := df.f__law_state_keyed
  exact has_fg (k := 0) F hm (fun _ _ _ _ _ _ us hl => match us, hl with | [_, _], _ => rfl) sc__law_state_keyed (by rintro ds G Q ⟨_, _, rfl, _⟩; rfl) (fun cdv A outer s H E hr => w__law_state_keyed ev  cdv A outer s H E hr) r__law_state_keyed
theorem ok__law_state_changed {P : Program} {w : World} {K : PySem.W.Frag} {mg : PySem.Str → Option Value} {base : Heap} (ev : Ev K mg) (df : Df K mg) : Has P w K mg base 4 "_law_state_changed" Hd.s__law_state_changed [("own" : PySem.Str), ("change" : PySem.Str)] sd__law_state_changed := by
  obtain ⟨f, fd, hm, F⟩ := df.f__law_state_changed
  exact has_fg (k := 3) F hm (fun _ _ _ _ _ _ us hl => match us, hl with | [_, _], _ => rfl) sc__law_state_changed (by rintro ds G Q ⟨_, _, rfl, _⟩; rfl) (fun cdv A outer s H E hr => w__law_state_changed ev ((ok__law_state_copy ev df).mono (by decide)) ((ok__law_state_are_values ev df).mono (by decide)) cdv A outer s H E hr) r__law_state_changed
theorem ok__law_state_dealt {P : Program} {w : World} {K : PySem.W.Frag} {mg : PySem.Str → Option Value} {base : Heap} (ev : Ev K mg) (df : Df K mg) : Has P w K mg base 5 "_law_state_dealt" Hd.s__law_state_dealt [("own" : PySem.Str), ("changes" : PySem.Str)] sd__law_state_dealt := by
  obtain ⟨f, fd, hm, F⟩ := df.f__law_state_dealt
  exact has_fg (k := 4) F hm (fun _ _ _ _ _ _ us hl => match us, hl with | [_, _], _ => rfl) sc__law_state_dealt (by rintro ds G Q ⟨_, _, rfl, _⟩; rfl) (fun cdv A outer s H E hr => w__law_state_dealt ev ((ok__law_state_changed ev df).mono (by decide)) cdv A outer s H E hr) r__law_state_dealt
theorem ok__law_state_keys {P : Program} {w : World} {K : PySem.W.Frag} {mg : PySem.Str → Option Value} {base : Heap} (ev : Ev K mg) (df : Df K mg) : Has P w K mg base 1 "_law_state_keys" Hd.s__law_state_keys [("own" : PySem.Str)] sd__law_state_keys := by
  obtain ⟨f, fd, hm, F⟩ := df.f__law_state_keys
  exact has_fg (k := 0) F hm (fun _ _ _ _ _ _ us hl => match us, hl with | [_], _ => rfl) sc__law_state_keys (by rintro ds G Q ⟨_, rfl, _⟩; rfl) (fun cdv A outer s H E hr => w__law_state_keys ev  cdv A outer s H E hr) r__law_state_keys
theorem ok__law_state_value_drawn {P : Program} {w : World} {K : PySem.W.Frag} {mg : PySem.Str → Option Value} {base : Heap} (ev : Ev K mg) (df : Df K mg) : Has P w K mg base 3 "_law_state_value_drawn" Hd.s__law_state_value_drawn [("pot" : PySem.Str), ("kind" : PySem.Str)] sd__law_state_value_drawn := by
  obtain ⟨f, fd, hm, F⟩ := df.f__law_state_value_drawn
  exact has_fg (k := 2) F hm (fun _ _ _ _ _ _ us hl => match us, hl with | [_, _], _ => rfl) sc__law_state_value_drawn (by rintro ds G Q ⟨_, _, _, rfl, _⟩; rfl) (fun cdv A outer s H E hr => w__law_state_value_drawn ev ((ok__law_take ev df).mono (by decide)) ((ok__law_of ev df).mono (by decide)) cdv A outer s H E hr) r__law_state_value_drawn
theorem ok__law_state_values_drawn {P : Program} {w : World} {K : PySem.W.Frag} {mg : PySem.Str → Option Value} {base : Heap} (ev : Ev K mg) (df : Df K mg) : Has P w K mg base 4 "_law_state_values_drawn" Hd.s__law_state_values_drawn [("pot" : PySem.Str), ("columns" : PySem.Str)] sd__law_state_values_drawn := by
  obtain ⟨f, fd, hm, F⟩ := df.f__law_state_values_drawn
  exact has_fg (k := 3) F hm (fun _ _ _ _ _ _ us hl => match us, hl with | [_, _], _ => rfl) sc__law_state_values_drawn (by rintro ds G Q ⟨_, _, _, _, rfl, _⟩; rfl) (fun cdv A outer s H E hr => w__law_state_values_drawn ev ((ok__law_state_value_drawn ev df).mono (by decide)) cdv A outer s H E hr) r__law_state_values_drawn
theorem ok__law_state_columns_drawn {P : Program} {w : World} {K : PySem.W.Frag} {mg : PySem.Str → Option Value} {base : Heap} (ev : Ev K mg) (df : Df K mg) : Has P w K mg base 3 "_law_state_columns_drawn" Hd.s__law_state_columns_drawn [("pot" : PySem.Str)] sd__law_state_columns_drawn := by
  obtain ⟨f, fd, hm, F⟩ := df.f__law_state_columns_drawn
  exact has_fg (k := 2) F hm (fun _ _ _ _ _ _ us hl => match us, hl with | [_], _ => rfl) sc__law_state_columns_drawn (by rintro ds G Q ⟨_, _, rfl, _⟩; rfl) (fun cdv A outer s H E hr => w__law_state_columns_drawn ev ((ok__law_some ev df).mono (by decide)) ((ok__law_take ev df).mono (by decide)) ((ok__law_of ev df).mono (by decide)) cdv A outer s H E hr) r__law_state_columns_drawn
theorem ok__law_state_changes_drawn {P : Program} {w : World} {K : PySem.W.Frag} {mg : PySem.Str → Option Value} {base : Heap} (ev : Ev K mg) (df : Df K mg) : Has P w K mg base 5 "_law_state_changes_drawn" Hd.s__law_state_changes_drawn [("pot" : PySem.Str), ("own" : PySem.Str), ("keys" : PySem.Str), ("most" : PySem.Str)] sd__law_state_changes_drawn := by
  obtain ⟨f, fd, hm, F⟩ := df.f__law_state_changes_drawn
  exact has_fg (k := 4) F hm (fun _ _ _ _ _ _ us hl => match us, hl with | [_, _, _, _], _ => rfl) sc__law_state_changes_drawn (by rintro ds G Q ⟨_, _, _, rfl, _⟩; rfl) (fun cdv A outer s H E hr => w__law_state_changes_drawn ev ((ok__law_take ev df).mono (by decide)) ((ok__law_of ev df).mono (by decide)) ((ok__law_state_values_drawn ev df).mono (by decide)) ((ok__law_state_changed ev df).mono (by decide)) cdv A outer s H E hr) r__law_state_changes_drawn
theorem ok__law_same {P : Program} {w : World} {K : PySem.W.Frag} {mg : PySem.Str → Option Value} {base : Heap} (ev : Ev K mg) (df : Df K mg) : ∀ m : Nat, Has P w K mg base (m + 1) "_law_same" Hd.s__law_same [("one" : PySem.Str), ("other" : PySem.Str)] (sdS m)
  | 0 => by
    obtain ⟨f, fd, hm, F⟩ := df.f__law_same
    exact has_no F hm (fun _ _ _ _ _ _ us hl => match us, hl with | [_, _], _ => rfl) sc__law_same
  | m + 1 => by
    obtain ⟨f, fd, hm, F⟩ := df.f__law_same
    exact has_fg F hm (fun _ _ _ _ _ _ us hl => match us, hl with | [_, _], _ => rfl) sc__law_same (by rintro ds G Q ⟨⟨_, rfl, _⟩, _⟩; rfl) (fun cdv A outer s H E hr => w__law_same ev (ok__law_same ev df m) cdv A outer s H E hr) (r__law_same m)
theorem ok__law_rows_drawn {P : Program} {w : World} {K : PySem.W.Frag} {mg : PySem.Str → Option Value} {base : Heap} (ev : Ev K mg) (df : Df K mg) : Has P w K mg base 5 "_law_rows_drawn" Hd.s__law_rows_drawn [("pot" : PySem.Str), ("own" : PySem.Str)] sd__law_rows_drawn := by
  obtain ⟨f, fd, hm, F⟩ := df.f__law_rows_drawn
  exact has_fg (k := 4) F hm (fun _ _ _ _ _ _ us hl => match us, hl with | [_, _], _ => rfl) sc__law_rows_drawn (by rintro ds G Q ⟨_, _, _, rfl, _⟩; rfl) (fun cdv A outer s H E hr => w__law_rows_drawn ev ((ok__law_state_schema ev df).mono (by decide)) ((ok__law_state_values_drawn ev df).mono (by decide)) ((ok__law_take ev df).mono (by decide)) cdv A outer s H E hr) r__law_rows_drawn
theorem ok__law_laid {P : Program} {w : World} {K : PySem.W.Frag} {mg : PySem.Str → Option Value} {base : Heap} (ev : Ev K mg) (df : Df K mg) : Has P w K mg base 2 "_law_laid" Hd.s__law_laid [("own" : PySem.Str), ("key" : PySem.Str), ("rows" : PySem.Str)] sd__law_laid := by
  obtain ⟨f, fd, hm, F⟩ := df.f__law_laid
  exact has_fg (k := 1) F hm (fun _ _ _ _ _ _ us hl => match us, hl with | [_, _, _], _ => rfl) sc__law_laid (by rintro ds G Q ⟨_, _, _, rfl, _⟩; rfl) (fun cdv A outer s H E hr => w__law_laid ev ((ok__law_state_copy ev df).mono (by decide)) cdv A outer s H E hr) r__law_laid
theorem ok__law_are_keys_right {P : Program} {w : World} {K : PySem.W.Frag} {mg : PySem.Str → Option Value} {base : Heap} (ev : Ev K mg) (df : Df K mg) : Has P w K mg base 8 "_law_are_keys_right" Hd.s__law_are_keys_right [("own" : PySem.Str), ("schema" : PySem.Str), ("state" : PySem.Str), ("keys" : PySem.Str)] sd__law_are_keys_right := by
  obtain ⟨f, fd, hm, F⟩ := df.f__law_are_keys_right
  exact has_fg (k := 7) F hm (fun _ _ _ _ _ _ us hl => match us, hl with | [_, _, _, _], _ => rfl) sc__law_are_keys_right (by rintro ds G Q ⟨⟨_, rfl, _⟩, _⟩; rfl) (fun cdv A outer s H E hr => w__law_are_keys_right ev ((ok__law_same ev df 6).mono (by decide)) ((ok__law_state_keys ev df).mono (by decide)) ((ok_keys_of ev df).mono (by decide)) ((ok__law_state_keyed ev df).mono (by decide)) ((ok_key_rows ev df).mono (by decide)) ((ok_row_in ev df).mono (by decide)) cdv A outer s H E hr) r__law_are_keys_right
theorem ok__law_scene {P : Program} {w : World} {K : PySem.W.Frag} {mg : PySem.Str → Option Value} {base : Heap} (ev : Ev K mg) (df : Df K mg) : Has P w K mg base 6 "_law_scene" Hd.s__law_scene [("pot" : PySem.Str), ("keys" : PySem.Str)] sd__law_scene := by
  obtain ⟨f, fd, hm, F⟩ := df.f__law_scene
  exact has_fg (k := 5) F hm (fun _ _ _ _ _ _ us hl => match us, hl with | [_, _], _ => rfl) sc__law_scene (by rintro ds G Q ⟨_, _, rfl, _⟩; rfl) (fun cdv A outer s H E hr => w__law_scene ev ((ok__law_some ev df).mono (by decide)) ((ok__law_of ev df).mono (by decide)) ((ok__law_take ev df).mono (by decide)) ((ok__law_state_columns_drawn ev df).mono (by decide)) ((ok__law_state_dealt ev df).mono (by decide)) ((ok__law_state_changes_drawn ev df).mono (by decide)) cdv A outer s H E hr) r__law_scene
theorem ok__law_right {P : Program} {w : World} {K : PySem.W.Frag} {mg : PySem.Str → Option Value} {base : Heap} (ev : Ev K mg) (df : Df K mg) : Has P w K mg base 9 "_law_right" Hd.s__law_right [("pot" : PySem.Str)] sd__law_right := by
  obtain ⟨f, fd, hm, F⟩ := df.f__law_right
  exact has_fg (k := 8) F hm (fun _ _ _ _ _ _ us hl => match us, hl with | [_], _ => rfl) sc__law_right (by rintro ds G Q ⟨_, _, rfl, _⟩; rfl) (fun cdv A outer s H E hr => w__law_right ev ((ok__law_scene ev df).mono (by decide)) ((ok__law_state_schema ev df).mono (by decide)) ((ok__law_state_told ev df).mono (by decide)) ((ok__law_are_keys_right ev df).mono (by decide)) ((ok__law_of ev df).mono (by decide)) ((ok__law_rows_drawn ev df).mono (by decide)) ((ok_with_key_rows ev df).mono (by decide)) ((ok__law_same ev df 6).mono (by decide)) ((ok__law_laid ev df).mono (by decide)) ((ok_empty_state ev df).mono (by decide)) ((ok__law_state_keys ev df).mono (by decide)) ((ok__law_some ev df).mono (by decide)) ((ok_key_rows ev df).mono (by decide)) cdv A outer s H E hr) r__law_right
theorem ok_law {P : Program} {w : World} {K : PySem.W.Frag} {mg : PySem.Str → Option Value} {base : Heap} (ev : Ev K mg) (df : Df K mg) : Has P w K mg base 10 "law" Hd.s_law [("script" : PySem.Str)] sd_law := by
  obtain ⟨f, fd, hm, F⟩ := df.f_law
  exact has_fg (k := 9) F hm (fun _ _ _ _ _ _ us hl => match us, hl with | [_], _ => rfl) sc_law (by rintro ds G Q ⟨_, rfl, _⟩; rfl) (fun cdv A outer s H E hr => w_law ev ((ok__law_cells ev df).mono (by decide)) ((ok__law_right ev df).mono (by decide)) ((ok__law_pot ev df).mono (by decide)) cdv A outer s H E hr) r_law
section
variable {w : World} {K : PySem.W.Frag} {h : Heap} {mg : PySem.Str → Option Value}
theorem tup_KINDS (c : Hd.ex K = true) (H : Hp) : RD K H (.ref (He.ga K "KINDS")) c_KINDS := by
  have t : He.tupB K "KINDS" [.str "int", .str "text"] = true := by
    exact c
  exact .tup (He.tupB_ok t H) (.cons (.str (okS_of (by decide +kernel))) (.cons (.str (okS_of (by decide +kernel))) (.nil)))
theorem ev_of (X : K.In h) (G : h.Ns mainGlobals mg) (c : He.SaysX Hd.fa Hd.fn [] [] Hd.ex w h K) : Ev K mg where
  m_ValueError := He.free_ok X G (c.t.d.fact 67 (f := .free "ValueError") rfl)
  m_abs := He.free_ok X G (c.t.d.fact 68 (f := .free "abs") rfl)
  m_all := He.free_ok X G (c.t.d.fact 69 (f := .free "all") rfl)
  m_bool := He.free_ok X G (c.t.d.fact 70 (f := .free "bool") rfl)
  m_dict := He.free_ok X G (c.t.d.fact 71 (f := .free "dict") rfl)
  m_int := He.free_ok X G (c.t.d.fact 72 (f := .free "int") rfl)
  m_isinstance := He.free_ok X G (c.t.d.fact 73 (f := .free "isinstance") rfl)
  m_len := He.free_ok X G (c.t.d.fact 74 (f := .free "len") rfl)
  m_list := He.free_ok X G (c.t.d.fact 75 (f := .free "list") rfl)
  m_max := He.free_ok X G (c.t.d.fact 76 (f := .free "max") rfl)
  m_min := He.free_ok X G (c.t.d.fact 77 (f := .free "min") rfl)
  m_range := He.free_ok X G (c.t.d.fact 78 (f := .free "range") rfl)
  m_set := He.free_ok X G (c.t.d.fact 79 (f := .free "set") rfl)
  m_sorted := He.free_ok X G (c.t.d.fact 80 (f := .free "sorted") rfl)
  m_str := He.free_ok X G (c.t.d.fact 81 (f := .free "str") rfl)
  m_sum := He.free_ok X G (c.t.d.fact 82 (f := .free "sum") rfl)
  m_super := He.free_ok X G (c.t.d.fact 83 (f := .free "super") rfl)
  m_tuple := He.free_ok X G (c.t.d.fact 84 (f := .free "tuple") rfl)
  m_zip := He.free_ok X G (c.t.d.fact 85 (f := .free "zip") rfl)
  c_PAIR := He.int_ok X G (c.t.d.fact 55 (f := .int "PAIR" 2) rfl)
  c_MOST_LETTERS := He.int_ok X G (c.t.d.fact 56 (f := .int "MOST_LETTERS" 6) rfl)
  c_MOST_KEY := He.int_ok X G (c.t.d.fact 57 (f := .int "MOST_KEY" 999999) rfl)
  c_MOST_SIGNS := He.int_ok X G (c.t.d.fact 58 (f := .int "MOST_SIGNS" 12) rfl)
  c_MOST_VALUE := He.int_ok X G (c.t.d.fact 59 (f := .int "MOST_VALUE" 99999999999) rfl)
  c_MOST_COLUMNS := He.int_ok X G (c.t.d.fact 60 (f := .int "MOST_COLUMNS" 6) rfl)
  c_MOST_TABLES := He.int_ok X G (c.t.d.fact 61 (f := .int "MOST_TABLES" 6) rfl)
  c_LETTERS := He.str_ok X G (c.t.d.fact 62 (f := .str "LETTERS" "abcdefghijklmnopqrstuvwxyz") rfl)
  c_FIRST_SIGN := He.str_ok X G (c.t.d.fact 63 (f := .str "FIRST_SIGN" "!") rfl)
  c_LAST_SIGN := He.str_ok X G (c.t.d.fact 64 (f := .str "LAST_SIGN" "~") rfl)
  c_INT := He.str_ok X G (c.t.d.fact 65 (f := .str "INT" "int") rfl)
  c_TEXT := He.str_ok X G (c.t.d.fact 66 (f := .str "TEXT" "text") rfl)
  c_KINDS := ⟨_, He.glo_ok X G (c.t.d.fact 86 (f := .glo "KINDS") rfl), tup_KINDS c.more⟩
theorem fx_is_whole (X : K.In h) (G : h.Ns mainGlobals mg) (c : He.SaysX Hd.fa Hd.fn [] [] Hd.ex w h K) : Fx K mg "is_whole" Hd.s_is_whole := by
  obtain ⟨fd, F⟩ := c.t.d.def_ 0 (d := Hd.d_is_whole) rfl
  exact ⟨_, fd, He.glo_ok X G (c.t.d.fact 0 (f := .glo "is_whole") rfl), F⟩
theorem fx_is_integer (X : K.In h) (G : h.Ns mainGlobals mg) (c : He.SaysX Hd.fa Hd.fn [] [] Hd.ex w h K) : Fx K mg "is_integer" Hd.s_is_integer := by
  obtain ⟨fd, F⟩ := c.t.d.def_ 1 (d := Hd.d_is_integer) rfl
  exact ⟨_, fd, He.glo_ok X G (c.t.d.fact 1 (f := .glo "is_integer") rfl), F⟩
theorem fx_is_tuple (X : K.In h) (G : h.Ns mainGlobals mg) (c : He.SaysX Hd.fa Hd.fn [] [] Hd.ex w h K) : Fx K mg "is_tuple" Hd.s_is_tuple := by
  obtain ⟨fd, F⟩ := c.t.d.def_ 2 (d := Hd.d_is_tuple) rfl
  exact ⟨_, fd, He.glo_ok X G (c.t.d.fact 2 (f := .glo "is_tuple") rfl), F⟩
theorem fx_is_string (X : K.In h) (G : h.Ns mainGlobals mg) (c : He.SaysX Hd.fa Hd.fn [] [] Hd.ex w h K) : Fx K mg "is_string" Hd.s_is_string := by
  obtain ⟨fd, F⟩ := c.t.d.def_ 3 (d := Hd.d_is_string) rfl
  exact ⟨_, fd, He.glo_ok X G (c.t.d.fact 3 (f := .glo "is_string") rfl), F⟩
theorem fx_are_ascending (X : K.In h) (G : h.Ns mainGlobals mg) (c : He.SaysX Hd.fa Hd.fn [] [] Hd.ex w h K) : Fx K mg "are_ascending" Hd.s_are_ascending := by
  obtain ⟨fd, F⟩ := c.t.d.def_ 4 (d := Hd.d_are_ascending) rfl
  exact ⟨_, fd, He.glo_ok X G (c.t.d.fact 4 (f := .glo "are_ascending") rfl), F⟩
theorem fx_are_unlike (X : K.In h) (G : h.Ns mainGlobals mg) (c : He.SaysX Hd.fa Hd.fn [] [] Hd.ex w h K) : Fx K mg "are_unlike" Hd.s_are_unlike := by
  obtain ⟨fd, F⟩ := c.t.d.def_ 5 (d := Hd.d_are_unlike) rfl
  exact ⟨_, fd, He.glo_ok X G (c.t.d.fact 5 (f := .glo "are_unlike") rfl), F⟩
theorem fx_is_name (X : K.In h) (G : h.Ns mainGlobals mg) (c : He.SaysX Hd.fa Hd.fn [] [] Hd.ex w h K) : Fx K mg "is_name" Hd.s_is_name := by
  obtain ⟨fd, F⟩ := c.t.d.def_ 6 (d := Hd.d_is_name) rfl
  exact ⟨_, fd, He.glo_ok X G (c.t.d.fact 6 (f := .glo "is_name") rfl), F⟩
theorem fx_is_key (X : K.In h) (G : h.Ns mainGlobals mg) (c : He.SaysX Hd.fa Hd.fn [] [] Hd.ex w h K) : Fx K mg "is_key" Hd.s_is_key := by
  obtain ⟨fd, F⟩ := c.t.d.def_ 7 (d := Hd.d_is_key) rfl
  exact ⟨_, fd, He.glo_ok X G (c.t.d.fact 7 (f := .glo "is_key") rfl), F⟩
theorem fx_is_text_value (X : K.In h) (G : h.Ns mainGlobals mg) (c : He.SaysX Hd.fa Hd.fn [] [] Hd.ex w h K) : Fx K mg "is_text_value" Hd.s_is_text_value := by
  obtain ⟨fd, F⟩ := c.t.d.def_ 8 (d := Hd.d_is_text_value) rfl
  exact ⟨_, fd, He.glo_ok X G (c.t.d.fact 8 (f := .glo "is_text_value") rfl), F⟩
theorem fx_is_of_kind (X : K.In h) (G : h.Ns mainGlobals mg) (c : He.SaysX Hd.fa Hd.fn [] [] Hd.ex w h K) : Fx K mg "is_of_kind" Hd.s_is_of_kind := by
  obtain ⟨fd, F⟩ := c.t.d.def_ 9 (d := Hd.d_is_of_kind) rfl
  exact ⟨_, fd, He.glo_ok X G (c.t.d.fact 9 (f := .glo "is_of_kind") rfl), F⟩
theorem fx_are_values (X : K.In h) (G : h.Ns mainGlobals mg) (c : He.SaysX Hd.fa Hd.fn [] [] Hd.ex w h K) : Fx K mg "are_values" Hd.s_are_values := by
  obtain ⟨fd, F⟩ := c.t.d.def_ 10 (d := Hd.d_are_values) rfl
  exact ⟨_, fd, He.glo_ok X G (c.t.d.fact 10 (f := .glo "are_values") rfl), F⟩
theorem fx_are_columns (X : K.In h) (G : h.Ns mainGlobals mg) (c : He.SaysX Hd.fa Hd.fn [] [] Hd.ex w h K) : Fx K mg "are_columns" Hd.s_are_columns := by
  obtain ⟨fd, F⟩ := c.t.d.def_ 11 (d := Hd.d_are_columns) rfl
  exact ⟨_, fd, He.glo_ok X G (c.t.d.fact 11 (f := .glo "are_columns") rfl), F⟩
theorem fx_is_schema (X : K.In h) (G : h.Ns mainGlobals mg) (c : He.SaysX Hd.fa Hd.fn [] [] Hd.ex w h K) : Fx K mg "is_schema" Hd.s_is_schema := by
  obtain ⟨fd, F⟩ := c.t.d.def_ 12 (d := Hd.d_is_schema) rfl
  exact ⟨_, fd, He.glo_ok X G (c.t.d.fact 12 (f := .glo "is_schema") rfl), F⟩
theorem fx_are_rows (X : K.In h) (G : h.Ns mainGlobals mg) (c : He.SaysX Hd.fa Hd.fn [] [] Hd.ex w h K) : Fx K mg "are_rows" Hd.s_are_rows := by
  obtain ⟨fd, F⟩ := c.t.d.def_ 13 (d := Hd.d_are_rows) rfl
  exact ⟨_, fd, He.glo_ok X G (c.t.d.fact 13 (f := .glo "are_rows") rfl), F⟩
theorem fx_is_state (X : K.In h) (G : h.Ns mainGlobals mg) (c : He.SaysX Hd.fa Hd.fn [] [] Hd.ex w h K) : Fx K mg "is_state" Hd.s_is_state := by
  obtain ⟨fd, F⟩ := c.t.d.def_ 14 (d := Hd.d_is_state) rfl
  exact ⟨_, fd, He.glo_ok X G (c.t.d.fact 14 (f := .glo "is_state") rfl), F⟩
theorem fx_are_key_rows (X : K.In h) (G : h.Ns mainGlobals mg) (c : He.SaysX Hd.fa Hd.fn [] [] Hd.ex w h K) : Fx K mg "are_key_rows" Hd.s_are_key_rows := by
  obtain ⟨fd, F⟩ := c.t.d.def_ 15 (d := Hd.d_are_key_rows) rfl
  exact ⟨_, fd, He.glo_ok X G (c.t.d.fact 15 (f := .glo "are_key_rows") rfl), F⟩
theorem fx_check_schema (X : K.In h) (G : h.Ns mainGlobals mg) (c : He.SaysX Hd.fa Hd.fn [] [] Hd.ex w h K) : Fx K mg "check_schema" Hd.s_check_schema := by
  obtain ⟨fd, F⟩ := c.t.d.def_ 16 (d := Hd.d_check_schema) rfl
  exact ⟨_, fd, He.glo_ok X G (c.t.d.fact 16 (f := .glo "check_schema") rfl), F⟩
theorem fx_check_state (X : K.In h) (G : h.Ns mainGlobals mg) (c : He.SaysX Hd.fa Hd.fn [] [] Hd.ex w h K) : Fx K mg "check_state" Hd.s_check_state := by
  obtain ⟨fd, F⟩ := c.t.d.def_ 17 (d := Hd.d_check_state) rfl
  exact ⟨_, fd, He.glo_ok X G (c.t.d.fact 17 (f := .glo "check_state") rfl), F⟩
theorem fx_empty_state (X : K.In h) (G : h.Ns mainGlobals mg) (c : He.SaysX Hd.fa Hd.fn [] [] Hd.ex w h K) : Fx K mg "empty_state" Hd.s_empty_state := by
  obtain ⟨fd, F⟩ := c.t.d.def_ 18 (d := Hd.d_empty_state) rfl
  exact ⟨_, fd, He.glo_ok X G (c.t.d.fact 18 (f := .glo "empty_state") rfl), F⟩
theorem fx_tables_in (X : K.In h) (G : h.Ns mainGlobals mg) (c : He.SaysX Hd.fa Hd.fn [] [] Hd.ex w h K) : Fx K mg "tables_in" Hd.s_tables_in := by
  obtain ⟨fd, F⟩ := c.t.d.def_ 19 (d := Hd.d_tables_in) rfl
  exact ⟨_, fd, He.glo_ok X G (c.t.d.fact 19 (f := .glo "tables_in") rfl), F⟩
theorem fx_state_of (X : K.In h) (G : h.Ns mainGlobals mg) (c : He.SaysX Hd.fa Hd.fn [] [] Hd.ex w h K) : Fx K mg "state_of" Hd.s_state_of := by
  obtain ⟨fd, F⟩ := c.t.d.def_ 20 (d := Hd.d_state_of) rfl
  exact ⟨_, fd, He.glo_ok X G (c.t.d.fact 20 (f := .glo "state_of") rfl), F⟩
theorem fx_check_key (X : K.In h) (G : h.Ns mainGlobals mg) (c : He.SaysX Hd.fa Hd.fn [] [] Hd.ex w h K) : Fx K mg "check_key" Hd.s_check_key := by
  obtain ⟨fd, F⟩ := c.t.d.def_ 21 (d := Hd.d_check_key) rfl
  exact ⟨_, fd, He.glo_ok X G (c.t.d.fact 21 (f := .glo "check_key") rfl), F⟩
theorem fx_keys_of (X : K.In h) (G : h.Ns mainGlobals mg) (c : He.SaysX Hd.fa Hd.fn [] [] Hd.ex w h K) : Fx K mg "keys_of" Hd.s_keys_of := by
  obtain ⟨fd, F⟩ := c.t.d.def_ 22 (d := Hd.d_keys_of) rfl
  exact ⟨_, fd, He.glo_ok X G (c.t.d.fact 22 (f := .glo "keys_of") rfl), F⟩
theorem fx_row_in (X : K.In h) (G : h.Ns mainGlobals mg) (c : He.SaysX Hd.fa Hd.fn [] [] Hd.ex w h K) : Fx K mg "row_in" Hd.s_row_in := by
  obtain ⟨fd, F⟩ := c.t.d.def_ 23 (d := Hd.d_row_in) rfl
  exact ⟨_, fd, He.glo_ok X G (c.t.d.fact 23 (f := .glo "row_in") rfl), F⟩
theorem fx_rows_under (X : K.In h) (G : h.Ns mainGlobals mg) (c : He.SaysX Hd.fa Hd.fn [] [] Hd.ex w h K) : Fx K mg "rows_under" Hd.s_rows_under := by
  obtain ⟨fd, F⟩ := c.t.d.def_ 24 (d := Hd.d_rows_under) rfl
  exact ⟨_, fd, He.glo_ok X G (c.t.d.fact 24 (f := .glo "rows_under") rfl), F⟩
theorem fx_key_rows (X : K.In h) (G : h.Ns mainGlobals mg) (c : He.SaysX Hd.fa Hd.fn [] [] Hd.ex w h K) : Fx K mg "key_rows" Hd.s_key_rows := by
  obtain ⟨fd, F⟩ := c.t.d.def_ 25 (d := Hd.d_key_rows) rfl
  exact ⟨_, fd, He.glo_ok X G (c.t.d.fact 25 (f := .glo "key_rows") rfl), F⟩
theorem fx_state_with (X : K.In h) (G : h.Ns mainGlobals mg) (c : He.SaysX Hd.fa Hd.fn [] [] Hd.ex w h K) : Fx K mg "state_with" Hd.s_state_with := by
  obtain ⟨fd, F⟩ := c.t.d.def_ 26 (d := Hd.d_state_with) rfl
  exact ⟨_, fd, He.glo_ok X G (c.t.d.fact 26 (f := .glo "state_with") rfl), F⟩
theorem fx_with_key_rows (X : K.In h) (G : h.Ns mainGlobals mg) (c : He.SaysX Hd.fa Hd.fn [] [] Hd.ex w h K) : Fx K mg "with_key_rows" Hd.s_with_key_rows := by
  obtain ⟨fd, F⟩ := c.t.d.def_ 27 (d := Hd.d_with_key_rows) rfl
  exact ⟨_, fd, He.glo_ok X G (c.t.d.fact 27 (f := .glo "with_key_rows") rfl), F⟩
theorem fx__law_pot (X : K.In h) (G : h.Ns mainGlobals mg) (c : He.SaysX Hd.fa Hd.fn [] [] Hd.ex w h K) : Fx K mg "_law_pot" Hd.s__law_pot := by
  obtain ⟨fd, F⟩ := c.t.d.def_ 28 (d := Hd.d__law_pot) rfl
  exact ⟨_, fd, He.glo_ok X G (c.t.d.fact 28 (f := .glo "_law_pot") rfl), F⟩
theorem fx__law_take (X : K.In h) (G : h.Ns mainGlobals mg) (c : He.SaysX Hd.fa Hd.fn [] [] Hd.ex w h K) : Fx K mg "_law_take" Hd.s__law_take := by
  obtain ⟨fd, F⟩ := c.t.d.def_ 29 (d := Hd.d__law_take) rfl
  exact ⟨_, fd, He.glo_ok X G (c.t.d.fact 29 (f := .glo "_law_take") rfl), F⟩
theorem fx__law_of (X : K.In h) (G : h.Ns mainGlobals mg) (c : He.SaysX Hd.fa Hd.fn [] [] Hd.ex w h K) : Fx K mg "_law_of" Hd.s__law_of := by
  obtain ⟨fd, F⟩ := c.t.d.def_ 30 (d := Hd.d__law_of) rfl
  exact ⟨_, fd, He.glo_ok X G (c.t.d.fact 30 (f := .glo "_law_of") rfl), F⟩
theorem fx__law_some (X : K.In h) (G : h.Ns mainGlobals mg) (c : He.SaysX Hd.fa Hd.fn [] [] Hd.ex w h K) : Fx K mg "_law_some" Hd.s__law_some := by
  obtain ⟨fd, F⟩ := c.t.d.def_ 31 (d := Hd.d__law_some) rfl
  exact ⟨_, fd, He.glo_ok X G (c.t.d.fact 31 (f := .glo "_law_some") rfl), F⟩
theorem fx__law_cells (X : K.In h) (G : h.Ns mainGlobals mg) (c : He.SaysX Hd.fa Hd.fn [] [] Hd.ex w h K) : Fx K mg "_law_cells" Hd.s__law_cells := by
  obtain ⟨fd, F⟩ := c.t.d.def_ 32 (d := Hd.d__law_cells) rfl
  exact ⟨_, fd, He.glo_ok X G (c.t.d.fact 32 (f := .glo "_law_cells") rfl), F⟩
theorem fx__law_is_int (X : K.In h) (G : h.Ns mainGlobals mg) (c : He.SaysX Hd.fa Hd.fn [] [] Hd.ex w h K) : Fx K mg "_law_is_int" Hd.s__law_is_int := by
  obtain ⟨fd, F⟩ := c.t.d.def_ 33 (d := Hd.d__law_is_int) rfl
  exact ⟨_, fd, He.glo_ok X G (c.t.d.fact 33 (f := .glo "_law_is_int") rfl), F⟩
theorem fx__law_state_is_text (X : K.In h) (G : h.Ns mainGlobals mg) (c : He.SaysX Hd.fa Hd.fn [] [] Hd.ex w h K) : Fx K mg "_law_state_is_text" Hd.s__law_state_is_text := by
  obtain ⟨fd, F⟩ := c.t.d.def_ 34 (d := Hd.d__law_state_is_text) rfl
  exact ⟨_, fd, He.glo_ok X G (c.t.d.fact 34 (f := .glo "_law_state_is_text") rfl), F⟩
theorem fx__law_state_is_of (X : K.In h) (G : h.Ns mainGlobals mg) (c : He.SaysX Hd.fa Hd.fn [] [] Hd.ex w h K) : Fx K mg "_law_state_is_of" Hd.s__law_state_is_of := by
  obtain ⟨fd, F⟩ := c.t.d.def_ 35 (d := Hd.d__law_state_is_of) rfl
  exact ⟨_, fd, He.glo_ok X G (c.t.d.fact 35 (f := .glo "_law_state_is_of") rfl), F⟩
theorem fx__law_state_are_values (X : K.In h) (G : h.Ns mainGlobals mg) (c : He.SaysX Hd.fa Hd.fn [] [] Hd.ex w h K) : Fx K mg "_law_state_are_values" Hd.s__law_state_are_values := by
  obtain ⟨fd, F⟩ := c.t.d.def_ 36 (d := Hd.d__law_state_are_values) rfl
  exact ⟨_, fd, He.glo_ok X G (c.t.d.fact 36 (f := .glo "_law_state_are_values") rfl), F⟩
theorem fx__law_state_copy (X : K.In h) (G : h.Ns mainGlobals mg) (c : He.SaysX Hd.fa Hd.fn [] [] Hd.ex w h K) : Fx K mg "_law_state_copy" Hd.s__law_state_copy := by
  obtain ⟨fd, F⟩ := c.t.d.def_ 37 (d := Hd.d__law_state_copy) rfl
  exact ⟨_, fd, He.glo_ok X G (c.t.d.fact 37 (f := .glo "_law_state_copy") rfl), F⟩
theorem fx__law_state_schema (X : K.In h) (G : h.Ns mainGlobals mg) (c : He.SaysX Hd.fa Hd.fn [] [] Hd.ex w h K) : Fx K mg "_law_state_schema" Hd.s__law_state_schema := by
  obtain ⟨fd, F⟩ := c.t.d.def_ 38 (d := Hd.d__law_state_schema) rfl
  exact ⟨_, fd, He.glo_ok X G (c.t.d.fact 38 (f := .glo "_law_state_schema") rfl), F⟩
theorem fx__law_state_told (X : K.In h) (G : h.Ns mainGlobals mg) (c : He.SaysX Hd.fa Hd.fn [] [] Hd.ex w h K) : Fx K mg "_law_state_told" Hd.s__law_state_told := by
  obtain ⟨fd, F⟩ := c.t.d.def_ 39 (d := Hd.d__law_state_told) rfl
  exact ⟨_, fd, He.glo_ok X G (c.t.d.fact 39 (f := .glo "_law_state_told") rfl), F⟩
theorem fx__law_state_keyed (X : K.In h) (G : h.Ns mainGlobals mg) (c : He.SaysX Hd.fa Hd.fn [] [] Hd.ex w h K) : Fx K mg "_law_state_keyed" Hd.s__law_state_keyed := by
  obtain ⟨fd, F⟩ := c.t.d.def_ 40 (d := Hd.d__law_state_keyed) rfl
  exact ⟨_, fd, He.glo_ok X G (c.t.d.fact 40 (f := .glo "_law_state_keyed") rfl), F⟩
theorem fx__law_state_changed (X : K.In h) (G : h.Ns mainGlobals mg) (c : He.SaysX Hd.fa Hd.fn [] [] Hd.ex w h K) : Fx K mg "_law_state_changed" Hd.s__law_state_changed := by
  obtain ⟨fd, F⟩ := c.t.d.def_ 41 (d := Hd.d__law_state_changed) rfl
  exact ⟨_, fd, He.glo_ok X G (c.t.d.fact 41 (f := .glo "_law_state_changed") rfl), F⟩
theorem fx__law_state_dealt (X : K.In h) (G : h.Ns mainGlobals mg) (c : He.SaysX Hd.fa Hd.fn [] [] Hd.ex w h K) : Fx K mg "_law_state_dealt" Hd.s__law_state_dealt := by
  obtain ⟨fd, F⟩ := c.t.d.def_ 42 (d := Hd.d__law_state_dealt) rfl
  exact ⟨_, fd, He.glo_ok X G (c.t.d.fact 42 (f := .glo "_law_state_dealt") rfl), F⟩
theorem fx__law_state_keys (X : K.In h) (G : h.Ns mainGlobals mg) (c : He.SaysX Hd.fa Hd.fn [] [] Hd.ex w h K) : Fx K mg "_law_state_keys" Hd.s__law_state_keys := by
  obtain ⟨fd, F⟩ := c.t.d.def_ 43 (d := Hd.d__law_state_keys) rfl
  exact ⟨_, fd, He.glo_ok X G (c.t.d.fact 43 (f := .glo "_law_state_keys") rfl), F⟩
theorem fx__law_state_value_drawn (X : K.In h) (G : h.Ns mainGlobals mg) (c : He.SaysX Hd.fa Hd.fn [] [] Hd.ex w h K) : Fx K mg "_law_state_value_drawn" Hd.s__law_state_value_drawn := by
  obtain ⟨fd, F⟩ := c.t.d.def_ 44 (d := Hd.d__law_state_value_drawn) rfl
  exact ⟨_, fd, He.glo_ok X G (c.t.d.fact 44 (f := .glo "_law_state_value_drawn") rfl), F⟩
theorem fx__law_state_values_drawn (X : K.In h) (G : h.Ns mainGlobals mg) (c : He.SaysX Hd.fa Hd.fn [] [] Hd.ex w h K) : Fx K mg "_law_state_values_drawn" Hd.s__law_state_values_drawn := by
  obtain ⟨fd, F⟩ := c.t.d.def_ 45 (d := Hd.d__law_state_values_drawn) rfl
  exact ⟨_, fd, He.glo_ok X G (c.t.d.fact 45 (f := .glo "_law_state_values_drawn") rfl), F⟩
theorem fx__law_state_columns_drawn (X : K.In h) (G : h.Ns mainGlobals mg) (c : He.SaysX Hd.fa Hd.fn [] [] Hd.ex w h K) : Fx K mg "_law_state_columns_drawn" Hd.s__law_state_columns_drawn := by
  obtain ⟨fd, F⟩ := c.t.d.def_ 46 (d := Hd.d__law_state_columns_drawn) rfl
  exact ⟨_, fd, He.glo_ok X G (c.t.d.fact 46 (f := .glo "_law_state_columns_drawn") rfl), F⟩
theorem fx__law_state_changes_drawn (X : K.In h) (G : h.Ns mainGlobals mg) (c : He.SaysX Hd.fa Hd.fn [] [] Hd.ex w h K) : Fx K mg "_law_state_changes_drawn" Hd.s__law_state_changes_drawn := by
  obtain ⟨fd, F⟩ := c.t.d.def_ 47 (d := Hd.d__law_state_changes_drawn) rfl
  exact ⟨_, fd, He.glo_ok X G (c.t.d.fact 47 (f := .glo "_law_state_changes_drawn") rfl), F⟩
theorem fx__law_same (X : K.In h) (G : h.Ns mainGlobals mg) (c : He.SaysX Hd.fa Hd.fn [] [] Hd.ex w h K) : Fx K mg "_law_same" Hd.s__law_same := by
  obtain ⟨fd, F⟩ := c.t.d.def_ 48 (d := Hd.d__law_same) rfl
  exact ⟨_, fd, He.glo_ok X G (c.t.d.fact 48 (f := .glo "_law_same") rfl), F⟩
theorem fx__law_rows_drawn (X : K.In h) (G : h.Ns mainGlobals mg) (c : He.SaysX Hd.fa Hd.fn [] [] Hd.ex w h K) : Fx K mg "_law_rows_drawn" Hd.s__law_rows_drawn := by
  obtain ⟨fd, F⟩ := c.t.d.def_ 49 (d := Hd.d__law_rows_drawn) rfl
  exact ⟨_, fd, He.glo_ok X G (c.t.d.fact 49 (f := .glo "_law_rows_drawn") rfl), F⟩
theorem fx__law_laid (X : K.In h) (G : h.Ns mainGlobals mg) (c : He.SaysX Hd.fa Hd.fn [] [] Hd.ex w h K) : Fx K mg "_law_laid" Hd.s__law_laid := by
  obtain ⟨fd, F⟩ := c.t.d.def_ 50 (d := Hd.d__law_laid) rfl
  exact ⟨_, fd, He.glo_ok X G (c.t.d.fact 50 (f := .glo "_law_laid") rfl), F⟩
theorem fx__law_are_keys_right (X : K.In h) (G : h.Ns mainGlobals mg) (c : He.SaysX Hd.fa Hd.fn [] [] Hd.ex w h K) : Fx K mg "_law_are_keys_right" Hd.s__law_are_keys_right := by
  obtain ⟨fd, F⟩ := c.t.d.def_ 51 (d := Hd.d__law_are_keys_right) rfl
  exact ⟨_, fd, He.glo_ok X G (c.t.d.fact 51 (f := .glo "_law_are_keys_right") rfl), F⟩
theorem fx__law_scene (X : K.In h) (G : h.Ns mainGlobals mg) (c : He.SaysX Hd.fa Hd.fn [] [] Hd.ex w h K) : Fx K mg "_law_scene" Hd.s__law_scene := by
  obtain ⟨fd, F⟩ := c.t.d.def_ 52 (d := Hd.d__law_scene) rfl
  exact ⟨_, fd, He.glo_ok X G (c.t.d.fact 52 (f := .glo "_law_scene") rfl), F⟩
theorem fx__law_right (X : K.In h) (G : h.Ns mainGlobals mg) (c : He.SaysX Hd.fa Hd.fn [] [] Hd.ex w h K) : Fx K mg "_law_right" Hd.s__law_right := by
  obtain ⟨fd, F⟩ := c.t.d.def_ 53 (d := Hd.d__law_right) rfl
  exact ⟨_, fd, He.glo_ok X G (c.t.d.fact 53 (f := .glo "_law_right") rfl), F⟩
theorem fx_law (X : K.In h) (G : h.Ns mainGlobals mg) (c : He.SaysX Hd.fa Hd.fn [] [] Hd.ex w h K) : Fx K mg "law" Hd.s_law := by
  obtain ⟨fd, F⟩ := c.t.d.def_ 54 (d := Hd.d_law) rfl
  exact ⟨_, fd, He.glo_ok X G (c.t.d.fact 54 (f := .glo "law") rfl), F⟩
theorem df_of (X : K.In h) (G : h.Ns mainGlobals mg) (c : He.SaysX Hd.fa Hd.fn [] [] Hd.ex w h K) : Df K mg where
  f_is_whole := fx_is_whole X G c
  f_is_integer := fx_is_integer X G c
  f_is_tuple := fx_is_tuple X G c
  f_is_string := fx_is_string X G c
  f_are_ascending := fx_are_ascending X G c
  f_are_unlike := fx_are_unlike X G c
  f_is_name := fx_is_name X G c
  f_is_key := fx_is_key X G c
  f_is_text_value := fx_is_text_value X G c
  f_is_of_kind := fx_is_of_kind X G c
  f_are_values := fx_are_values X G c
  f_are_columns := fx_are_columns X G c
  f_is_schema := fx_is_schema X G c
  f_are_rows := fx_are_rows X G c
  f_is_state := fx_is_state X G c
  f_are_key_rows := fx_are_key_rows X G c
  f_check_schema := fx_check_schema X G c
  f_check_state := fx_check_state X G c
  f_empty_state := fx_empty_state X G c
  f_tables_in := fx_tables_in X G c
  f_state_of := fx_state_of X G c
  f_check_key := fx_check_key X G c
  f_keys_of := fx_keys_of X G c
  f_row_in := fx_row_in X G c
  f_rows_under := fx_rows_under X G c
  f_key_rows := fx_key_rows X G c
  f_state_with := fx_state_with X G c
  f_with_key_rows := fx_with_key_rows X G c
  f__law_pot := fx__law_pot X G c
  f__law_take := fx__law_take X G c
  f__law_of := fx__law_of X G c
  f__law_some := fx__law_some X G c
  f__law_cells := fx__law_cells X G c
  f__law_is_int := fx__law_is_int X G c
  f__law_state_is_text := fx__law_state_is_text X G c
  f__law_state_is_of := fx__law_state_is_of X G c
  f__law_state_are_values := fx__law_state_are_values X G c
  f__law_state_copy := fx__law_state_copy X G c
  f__law_state_schema := fx__law_state_schema X G c
  f__law_state_told := fx__law_state_told X G c
  f__law_state_keyed := fx__law_state_keyed X G c
  f__law_state_changed := fx__law_state_changed X G c
  f__law_state_dealt := fx__law_state_dealt X G c
  f__law_state_keys := fx__law_state_keys X G c
  f__law_state_value_drawn := fx__law_state_value_drawn X G c
  f__law_state_values_drawn := fx__law_state_values_drawn X G c
  f__law_state_columns_drawn := fx__law_state_columns_drawn X G c
  f__law_state_changes_drawn := fx__law_state_changes_drawn X G c
  f__law_same := fx__law_same X G c
  f__law_rows_drawn := fx__law_rows_drawn X G c
  f__law_laid := fx__law_laid X G c
  f__law_are_keys_right := fx__law_are_keys_right X G c
  f__law_scene := fx__law_scene X G c
  f__law_right := fx__law_right X G c
  f_law := fx_law X G c
end
theorem law_fd {K : PySem.W.Frag} {x : PySem.Str} {pa : Arguments} {bd : List Stmt} {sc : Scope} {f : Addr} {fd gd : FuncData} (F : FunD K x x pa bd sc [] [] f fd) (F2 : FunD K x x pa bd sc [] [] f gd) : gd = fd := by
  obtain ⟨oc, od, dV, kV, doc, pm, an, cdv, ct, osl, e, lk, _⟩ := F.ex
  obtain ⟨oc2, od2, dV2, kV2, doc2, pm2, an2, cdv2, ct2, osl2, e2, lk2, _⟩ := F2.ex
  rw [lk] at lk2
  have z := Option.some.inj lk2
  injection z with z1 z2 z3 z4
  injection z3 with z5
  exact z5.symm
theorem fz_of {K : PySem.W.Frag} {H : Hp} {a : Addr} {xs : List V} (hO : Only H) (h : SqL K H a xs) : FzL K H a xs := by
  rcases h with (h | h) | h
  · rcases hO a with e | ⟨o, ys, e⟩
    · rw [e] at h; cases h
    · rw [e] at h; cases h
  · exact .inl h
  · exact .inr h
theorem law_all {P : Program} {w : World} {K : PySem.W.Frag} {h : Heap} {mg : PySem.Str → Option Value} {f : Addr} (X : K.In h) (G : h.Ns mainGlobals mg) (hfa : mg ("law" : PySem.Str) = some (.ref f)) (c : He.SaysX Hd.fa Hd.fn [] [] Hd.ex w h K) :
    ∃ fd : FuncData, (∀ (s : Shared) (v : Value), BindsTo s fd ⟨[v], []⟩ [("script", v)]) ∧ ∀ base : Heap, K.In base → base.Ns mainGlobals mg → FnOk P w K mg base CX0 10 f fd ["script"] (spOf K sd_law) := by
  have df := df_of X G c
  have ev := ev_of X G c
  obtain ⟨f', fd, hm, F⟩ := df.f_law
  have e := hfa.symm.trans hm
  cases e
  have b := FunD.bindsA (ps := ["script"]) F fun _ _ _ _ _ _ us hl => match us, hl with | [_], _ => rfl
  refine ⟨fd, fun s v => b s [v] rfl, fun base _ _ => ?_⟩
  obtain ⟨f2, fd2, hm2, F2, _, ok⟩ := (ok_law (P := P) (w := w) (base := base) ev df).ex
  rw [hm] at hm2
  cases hm2
  have e2 := law_fd F F2
  subst e2
  exact ok
end Ko
open PySem PySem.W PySem.Calls PyProof.Rows
theorem PySem.Challenge.cw_toldmoment_k05_whole_what_lies_under_key_holds : PySem.Challenge.rw_toldmoment_k05_whole_what_lies_under_key.Holds := by
  refine Hd.head ?_
  refine L2.walk_ofE (l := PySem.Challenge.rw_toldmoment_k05_whole_what_lies_under_key) (n := 63) (k := 10) (x := "script") (CX := L2.CX0) rfl (by decide) (by kernel_rfl) ⟨rfl, by decide, by decide⟩ ?F (fun _ _ _ _ z => z)
  intro w mg fa h Y G hmg0
  obtain ⟨K, KX, c⟩ := Y
  have hmg : mg ("law" : PySem.Str) = some (.ref fa) := by
    have e : (HandSHeadRun.topDef Hd.R.prog Hd.lawI).name = ("law" : PySem.Str) := by kernel_rfl
    rw [← e]
    exact hmg0
  obtain ⟨fd, hb, hF⟩ := Ko.law_all (P := (PySem.Challenge.rw_toldmoment_k05_whole_what_lies_under_key).prog) (w := w) KX G hmg c
  refine ⟨K, fd, Dl.spOf K K5.sd_law, KX, hb, fun H a ns hl hO hS => ?_, hF⟩
  exact ⟨[.lst (ns.map Dl.D.int)], fun _ => none, fun v _ => v = .bl true, (fun _ _ e => nomatch e), .cons (.lst (Ko.fz_of hO hS) (Dl.rds_ints ns)) .nil, ⟨ns, rfl, fun _ => rfl⟩, fun v H' d G' _ r e => by subst e; cases r; rfl⟩


end
